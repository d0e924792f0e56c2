import PyProof.Rows.All
import Wide.All
import OpenK.AllK
import Wide.FinOn
import PyProof.ReprRoads
import HandS.ForMost
import HandS.ForExc
import HandS.ExcInit
import HandS.ExcField
import HandS.ExcIs
import HandS.TryMany
import HandS.IsInst
import HandS.Defaults
import HandS.Property
import HandS.Wide
import HandS.FStr
import HandS.StrMore
import HandS.Steps
import HandS.CallSlots
import HandS.Head0
import HandS.Head1
import HandS.Head2
import HandS.HeadEnd
import HandS.HeadHook1
import HandS.HeadHook2
import HandS.ClsMeth
import HandS.Walk
import KE.KOpsOwn
import HandS.OwnEq
import PyProof.NeKinds
import KE.GoesMore
import HandS.Zip
import HandS.Evl
import HandS.DictComp
import HandS.Star
import KE.IntTextLaws
import HandS.Style
import PySem.Challenge.RW_anytempo_k08_maps_told
set_option Elab.async false
set_option linter.all false
set_option maxRecDepth 100000
set_option maxHeartbeats 4000000
namespace AT
open PySem PySem.Spec PyProof.Rows L2
/-! ### the hook: facts of what the top leaves -/
def asA (g : Addr → Option Obj) : Nat → List Addr
  | 0 => [mainGlobals, cStatics]
  | n + 1 => He.growD g (asA g n)
/-- one def: where it stands, its name, qualified name, parameters, body, scope, defaults, keyword-only defaults -/
structure FD where
  loc : PySem.W.Frag → Addr
  name : Str
  qual : Str
  params : Arguments
  body : List Stmt
  scope : Scope
  dfl : List He.Dv := []
  kwd : List (Str × He.Dv) := []
def fdOf (loc : PySem.W.Frag → Addr) (name qual : Str) (st : Stmt) (dfl : List He.Dv := []) (kwd : List (Str × He.Dv) := []) : FD := ⟨loc, name, qual, defArgs st, defBody st, defScope st, dfl, kwd⟩
def fobs (K : PySem.W.Frag) (a : Addr) : He.FnW := match K.lookup a with
  | some ⟨_, _, .func u, _⟩ => some (u.name, u.qualname, u.params, u.body, u.scope, u.globals, u.closure, u.builtins)
  | _ => none
def FD.val (d : FD) : He.FnW := some (d.name, d.qual, d.params, .stmts d.body, d.scope, mainGlobals, [], builtinsNs)
def FD.dvs (K : PySem.W.Frag) (d : FD) : List V := d.dfl.map (He.Dv.v K)
def FD.kws (K : PySem.W.Frag) (d : FD) : List (Str × V) := d.kwd.map fun z => (z.1, z.2.v K)
def FD.ok (K : PySem.W.Frag) (d : FD) : Bool := PySem.W.keepIn K (.ref (d.loc K)) && (match K.lookup (d.loc K) with
  | some ⟨_, _, .func u, _⟩ => PySem.W.codeIn K u.code d.qual && (He.dflB K u.defaults (d.dvs K) && He.kwdB K u.kwdefaults (d.kws K))
  | _ => false)
theorem FD.funD {K : PySem.W.Frag} {d : FD} (e : fobs K (d.loc K) = d.val) (c : d.ok K = true) : ∃ fd, FunD K d.name d.qual d.params d.body d.scope (d.dvs K) (d.kws K) (d.loc K) fd := by
  obtain ⟨kp, c2⟩ := He.ba c
  unfold fobs at e
  cases hl : K.lookup (d.loc K) with
  | none =>
    rw [hl] at c2
    cases c2
  | some o =>
    obtain ⟨oc, od, dt, osl⟩ := o
    rw [hl] at c2 e
    cases dt with
    | func u =>
      obtain ⟨u1, u2, u3, u4, u5, u6, u7, u8, u9, u10, u11, u12, u13, u14, u15⟩ := u
      have e2 : (some (u1, u2, u3, u4, u5, u6, u7, u15) : He.FnW) = some (d.name, d.qual, d.params, .stmts d.body, d.scope, mainGlobals, [], builtinsNs) := e
      simp only [Option.some.injEq, Prod.mk.injEq] at e2
      obtain ⟨rfl, rfl, rfl, rfl, rfl, rfl, rfl, rfl⟩ := e2
      obtain ⟨k1, k2⟩ := He.ba (show (PySem.W.codeIn K u13 d.qual && (He.dflB K u8 (d.dvs K) && He.kwdB K u9 (d.kws K))) = true from c2)
      obtain ⟨k3, k4⟩ := He.ba k2
      exact ⟨_, ⟨oc, od, u8, u9, u10, u11, u12, u13, u14, osl, rfl, hl, k1, He.dflB_ok k3, He.kwdB_ok k4⟩, kp⟩
    | _ => cases c2
/-- the getter of a property of the class x -/
def propAt (x f : Str) (K : PySem.W.Frag) : Addr := match PySem.W.findIn K (.ref (He.ga K x)) f with
  | some (some (.ref p)) => (match PySem.W.recIn K p "property" with
    | some (.ref g :: _) => g
    | _ => 0)
  | _ => 0
abbrev AlA : Type := Bool × List He.FnW
abbrev Ex := List (PySem.W.Frag → Bool)
def obsA (fn : List FD) (ex : Ex) (K : PySem.W.Frag) : AlA :=
  (ex.all (fun e => e K) && fn.all (fun d => d.ok K), fn.map fun d => fobs K (d.loc K))
def valA (fn : List FD) : AlA := (true, fn.map FD.val)
def SaysA (fn : List FD) (ex : Ex) (K : PySem.W.Frag) : Prop := obsA fn ex K = valA fn
def obsAG (n : Nat) (fn : List FD) (ex : Ex) (g : Addr → Option Obj) : AlA := obsA fn ex (He.frG g (sysModules :: asA g n))
def hookA (n : Nat) (fn : List FD) (ex : Ex) : PySem.W.Hook where
  α := AlA
  obs := fun s => obsAG n fn ex s.heap.get?
  val := fun _ => valA fn
  says := fun _ h => ∃ K : PySem.W.Frag, K.In h ∧ SaysA fn ex K
  of := fun _ _ e => ⟨_, He.frG_in, e⟩
  keeps := fun _ _ _ ⟨K, hK, c⟩ k => ⟨K, PySem.W.Frag.In.keeps hK k, c⟩
theorem obsAG_eq {n : Nat} {fn : List FD} {ex : Ex} {g : Addr → Option Obj} {s : Shared} (h : ∀ a, g a = s.heap.get? a) : obsAG n fn ex g = (hookA n fn ex).obs s := by
  have q : g = s.heap.get? := funext h
  subst q
  rfl
section
variable {fn : List FD} {ex : Ex} {K : PySem.W.Frag}
theorem SaysA.more (c : SaysA fn ex K) (i : Nat) {e : PySem.W.Frag → Bool} (h : ex[i]? = some e := by rfl) : e K = true :=
  List.all_eq_true.mp (He.ba (congrArg (fun z : AlA => z.1) c)).1 e (List.mem_of_getElem? h)
theorem SaysA.fun_ (c : SaysA fn ex K) (i : Nat) {d : FD} (h : fn[i]? = some d := by rfl) : ∃ fd, FunD K d.name d.qual d.params d.body d.scope (d.dvs K) (d.kws K) (d.loc K) fd := by
  have c2 := (He.ba (show (ex.all (fun e => e K) && fn.all (fun d => d.ok K)) = true from congrArg (fun z : AlA => z.1) c)).2
  have e2 : (fn.map fun d => fobs K (d.loc K))[i]? = (fn.map FD.val)[i]? := congrArg (fun z : AlA => z.2[i]?) c
  rw [List.getElem?_map, List.getElem?_map, h] at e2
  exact FD.funD (Option.some.inj e2) (List.all_eq_true.mp c2 d (List.mem_of_getElem? h))
end
/-! ### facts of the module's names -/
def gloB (x : Str) (K : PySem.W.Frag) : Bool := He.eqO (PySem.W.nsIn K mainGlobals x) (some (some (.ref (He.ga K x))))
def freeB (x : Str) (K : PySem.W.Frag) : Bool := He.eqO (PySem.W.nsIn K mainGlobals x) (some none)
def conB (x : Str) (v : V) (K : PySem.W.Frag) : Bool := match PySem.W.nsIn K mainGlobals x with
  | some (some u) => He.relB v u
  | _ => false
theorem conB_ok {K : PySem.W.Frag} {h : Heap} {mg : Str → Option Value} {x : Str} {v : V} (X : K.In h) (G : h.Ns mainGlobals mg) (c : conB x v K = true) : ∃ u, mg x = some u ∧ RelV v u := by
  unfold conB at c
  split at c
  · rename_i u hu
    exact ⟨u, PySem.W.mg_of X G hu, He.relB_ok c⟩
  · cases c
def clsB (x : Str) (K : PySem.W.Frag) : Bool := (He.Fa.cls x).ok K
def noatB (x f : Str) (K : PySem.W.Frag) : Bool := (He.Fa.noat x f).ok K
def methB (x f : Str) (K : PySem.W.Frag) : Bool := (He.Fa.meth x f).ok K
def mkrB (x : Str) (K : PySem.W.Frag) : Bool := (He.Fa.mkr x).ok K
def exmB (x y : Str) (b : Bool) (K : PySem.W.Frag) : Bool := (He.Fa.exm x y b).ok K
def lstB (x : Str) (vs : List He.Dv) (K : PySem.W.Frag) : Bool := He.lstB K x vs
/-- a property of the class x: PropOf -/
def propB (x f : Str) (K : PySem.W.Frag) : Bool := match PySem.W.findIn K (.ref (He.ga K x)) f with
  | some (some (.ref p)) => He.eqO (PySem.W.specialIn K (.ref p) "__get__") (some (some (.builtin "property.__get__"))) && (decide (PySem.W.takesIn K (.ref p) = some true) && (match PySem.W.recIn K p "property" with
    | some (.ref _ :: _) => true
    | _ => false))
  | _ => false
theorem propB_ok {K : PySem.W.Frag} {x f : Str} (h : propB x f K = true) : ∃ p, PropOf K (He.ga K x) f p (propAt x f K) := by
  unfold propB at h
  split at h
  · rename_i p hp
    obtain ⟨h1, h⟩ := He.ba h
    obtain ⟨h2, h3⟩ := He.ba h
    split at h3
    · rename_i g rest hr
      have e : propAt x f K = g := by
        unfold propAt
        rw [hp]
        simp only [hr]
      exact ⟨p, hp, He.eqO_ok h1, of_decide_eq_true h2, rest, by rw [e]; exact hr⟩
    · cases h3
  · cases h
/-- isinstance of instances of the own class x -/
def insB (x : Str) (K : PySem.W.Frag) : Bool := He.eqO (PySem.W.findIn K (.ref (He.ga K x)) "__class__") (some (some (.builtin "object.__class__"))) &&
  (He.eqO (PySem.W.specialIn K (.builtin "object.__class__") "__get__") (some (some (.builtin "getset_descriptor.__get__"))) &&
  (decide (PySem.W.takesIn K (.builtin "object.__class__") = some true) && decide (PySem.W.mroIn K (He.ga K x) (.type "object") = some true)))
theorem insB_ok {K : PySem.W.Frag} {x : Str} (h : insB x K = true) (c : Cls K (He.ga K x)) {H : Hp} {a dx : Addr} {fs : List (Str × V)} (e : H a = some (.ins (He.ga K x) dx fs)) : TyX K H (.ref a) (.ref (He.ga K x)) := by
  obtain ⟨h1, h⟩ := He.ba h
  obtain ⟨h2, h⟩ := He.ba h
  obtain ⟨h3, h4⟩ := He.ba h
  exact .base (.ins e c (He.eqO_ok h1) (He.eqO_ok h2) (of_decide_eq_true h3) (of_decide_eq_true h4))
/-- isinstance of a value of the type t (built-in, by name; "" : the own class x) with the class c -/
def kitB (t : PySem.W.Frag → Value) (c : PySem.W.Frag → Value) (b : Bool) (K : PySem.W.Frag) : Bool := decide (PySem.W.kitOne K (t K) (c K) = some b)
theorem kitB_ok {K : PySem.W.Frag} {t c : PySem.W.Frag → Value} {b : Bool} (h : kitB t c b K = true) : PySem.W.kitOne K (t K) (c K) = some b := of_decide_eq_true h
/-- sys.modules stands in the part that is looked at -/
def sysB (K : PySem.W.Frag) : Bool := match K.lookup sysModules with
  | some ⟨.type c, _, _, _⟩ => decide (c = "dict")
  | _ => false
theorem sysB_ok {K : PySem.W.Frag} (h : sysB K = true) : ∃ o, K.lookup sysModules = some o ∧ o.cls = .type "dict" := by
  unfold sysB at h
  split at h
  · rename_i c dd dt sl ho
    exact ⟨_, ho, congrArg Value.type (of_decide_eq_true h)⟩
  · cases h
/-! ### exception classes: what is looked at -/
/-- an own class over ValueError with its own __init__, with the base class at B of the package -/
def excB (K : PySem.W.Frag) (C : Addr) : Bool := match K.lookup C with
  | some ⟨.type t, _, .cls cd, sl⟩ => (match cd.mro, sl.toList with
    | .ref D :: bm, [_, _, _, _, some (.builtin n), _] => decide (t = "type") && (decide (D = C) && (decide (n = "ValueError.__new__") && (!cd.hasDel && (cd.hasDict && HandSPX.refsVE bm))))
    | _, _ => false)
  | _ => false
theorem excB_ok {K : PySem.W.Frag} {C : Addr} (h : excB K C = true) :
    ∃ nm q N bs bm sn sub ab col dd k0 k1 k2 k3 k5, K.lookup C = some (excClassObj nm q C N bs bm true sn sub ab col dd k0 k1 k2 k3 k5 "ValueError.__new__") ∧ PySem.HandSPX.refsVE bm = true := by
  unfold excB at h
  split at h
  · rename_i t dd cd sl ho
    split at h
    · rename_i D bm k0 k1 k2 k3 n k5 hm hs
      simp only [Bool.and_eq_true, decide_eq_true_eq, Bool.not_eq_true'] at h
      obtain ⟨rfl, rfl, rfl, hdel, hdic, ht⟩ := h
      obtain ⟨nm, bs, mro, ns, qn, hd, sn, sub, ab, col, del⟩ := cd
      dsimp only at hm hdel hdic
      subst hm hdel hdic
      have hsl : sl = #[k0, k1, k2, k3, some (.builtin "ValueError.__new__"), k5] := by
        obtain ⟨l⟩ := sl
        simp only at hs
        rw [hs]
      subst hsl
      exact ⟨nm, qn, ns, bs, bm, sn, sub, ab, col, dd, k0, k1, k2, k3, k5, ho, ht⟩
    · cases h
  · cases h
/-- all that is asked of an exception class x with the field f -/
def xcB (K : PySem.W.Frag) (x f : Str) : Bool :=
  excB K (He.ga K x) && (He.eqO (PySem.W.findIn K (.ref (He.ga K x)) "__setattr__") (some (some (.builtin "object.__setattr__"))) &&
  (decide (PySem.W.subIn K (.ref (He.ga K x)) (.type "BaseException") = some true) && (decide (PySem.W.typeIn K (.ref (He.ga K x)) = some (.type "type")) &&
  (PySem.W.keepIn K (.ref (He.ga K x)) && (He.eqO (PySem.W.findIn K (.ref (He.ga K x)) f) (some none) && (xfB K (He.ga K x) &&
  (He.eqO (PySem.W.findIn K (.ref (He.ga K x)) "__init__") (some (some (.ref (He.ma K (He.ga K x) "__init__")))) &&
  (decide (PySem.W.typeIn K (.ref (He.ma K (He.ga K x) "__init__")) = some (.type "function")) &&
  He.eqO (PySem.W.nsIn K mainGlobals x) (some (some (.ref (He.ga K x)))))))))))) 
structure Xc (K : PySem.W.Frag) (x f : Str) : Prop where
  oex : OexC K (He.ga K x)
  xf : XfC K (He.ga K x)
  no : PySem.W.findIn K (.ref (He.ga K x)) f = some none
  ini : PySem.W.findIn K (.ref (He.ga K x)) "__init__" = some (some (.ref (He.ma K (He.ga K x) "__init__")))
  tyi : PySem.W.typeIn K (.ref (He.ma K (He.ga K x) "__init__")) = some (.type "function")
  glo : PySem.W.nsIn K mainGlobals x = some (some (.ref (He.ga K x)))
theorem xcB_ok {K : PySem.W.Frag} {x f : Str} (h : xcB K x f = true) : Xc K x f := by
  obtain ⟨h1, h⟩ := He.ba h
  obtain ⟨h2, h⟩ := He.ba h
  obtain ⟨h3, h⟩ := He.ba h
  obtain ⟨h4, h⟩ := He.ba h
  obtain ⟨h5, h⟩ := He.ba h
  obtain ⟨h6, h⟩ := He.ba h
  obtain ⟨h7, h⟩ := He.ba h
  obtain ⟨h8, h⟩ := He.ba h
  obtain ⟨h9, h10⟩ := He.ba h
  exact ⟨⟨excB_ok h1, He.eqO_ok h2, of_decide_eq_true h3, of_decide_eq_true h4, h5⟩, xfB_ok h7, He.eqO_ok h6, He.eqO_ok h8, of_decide_eq_true h9, He.eqO_ok h10⟩
def valB (c : Option PySem.W.CFound) (u : Value) : Bool := match c with
  | some (.val v) => decide (v = u)
  | _ => false
theorem valB_ok {c : Option PySem.W.CFound} {u : Value} (h : valB c u = true) : c = some (.val u) := by
  unfold valB at h
  split at h
  · rw [of_decide_eq_true h]
  · cases h
/-- the base class of the package: B.__init__ is ValueError's -/
def baB (K : PySem.W.Frag) (B : Str) : Bool :=
  PySem.W.readsIn K (He.ga K B) (.type "type") && (He.eqO (PySem.W.specialIn K (.ref (He.ga K B)) "__getattribute__") (some (some (.builtin "type.__getattribute__"))) &&
  (valB (PySem.W.findCls K (.ref (He.ga K B)) (.type "type") "__init__") (.builtin "ValueError.__init__") &&
  He.eqO (PySem.W.nsIn K mainGlobals B) (some (some (.ref (He.ga K B))))))
structure Ba (K : PySem.W.Frag) (B : Str) : Prop where
  rd : PySem.W.readsIn K (He.ga K B) (.type "type") = true
  ga : PySem.W.specialIn K (.ref (He.ga K B)) "__getattribute__" = some (some (.builtin "type.__getattribute__"))
  ini : PySem.W.findCls K (.ref (He.ga K B)) (.type "type") "__init__" = some (.val (.builtin "ValueError.__init__"))
  glo : PySem.W.nsIn K mainGlobals B = some (some (.ref (He.ga K B)))
theorem baB_ok {K : PySem.W.Frag} {B : Str} (h : baB K B = true) : Ba K B := by
  obtain ⟨h1, h⟩ := He.ba h
  obtain ⟨h2, h⟩ := He.ba h
  obtain ⟨h3, h4⟩ := He.ba h
  exact ⟨h1, He.eqO_ok h2, valB_ok h3, He.eqO_ok h4⟩
end AT

set_option maxHeartbeats 4000000
namespace AT
open PySem PySem.Spec PyProof.Rows L2
section
variable {X : Cx} {e : Expr} {es : List Expr} {ta : TA} {B : Str} {p1 p2 pos : Pos}
/-- B.__init__(self, ..), B an own class over ValueError -/
theorem pe_cinit {look : Sem Bool} (T : Ba X.K B) (hB : Gl X B) (hmB : X.mg B = some (.ref (He.ga X.K B))) (hA : PA X (e :: es) ta)
    (hev : eval (.Call (.Attribute (.Name B p1) "__init__" p2) (e :: es) [] pos) X.env = (do
      let cv ← eval (.Name B p1) X.env
      standAt p2.atName
      let (fv, frst) ← holding [cv] (getMethod cv "__init__" look)
      callWith pos fv frst (backTo pos (starEach (e :: es) X.env)) (backToKw pos (keywordEach [] X.env))) := by rfl)
    (hdb : (B == ("__debug__" : Str)) = false := by decide)
    (hst : starEach (e :: es) X.env = (false, eval e X.env) :: starEach es X.env := by rfl) (hns : (backTo pos (starEach es X.env)).any (·.1) = false := by rfl) :
    PE X (.Call (.Attribute (.Name B p1) "__init__" p2) (e :: es) [] pos) (tVeI X.K ta) := by
  constructor
  intro pins s σ H Q I h
  refine PySem.W.methodCall_KW (ld_glob I hB hmB ?_ hdb) hev
  refine PySem.W.method_cls I.kIn T.ga (PySem.W.cls_value I.kIn T.rd T.ini (by decide +kernel) ?_)
  show wpAny _ _ (callWith pos (Value.builtin "ValueError.__init__") [] (backTo pos (starEach (e :: es) X.env)) []) _ _ _
  refine PyProof.Rows.callWith_method1 (thn (hA.run pos pins _ σ H _ (I.tok _) h) fun vals s1 ⟨vs, H1, I1, r1, a, C, ws, ev, hl, To, ea, q⟩ => ?_) hst hns
  subst ev
  cases r1 with
  | @cons _ v0 _ vr ra rr =>
    obtain rfl : v0 = Value.ref a := ra
    refine oinit_ok To I1 ea ?_ fun s' J => ⟨.non, H1, J, rfl, q⟩
    rw [← Paired.length rr, sizeLine_eq]
    omega
end
/-- what an exception's own __init__(self, f) promises -/
def spXi (K : PySem.W.Frag) (C : Addr) (f : Str) : Sp := fun vs H Q _ => ∃ (a : Addr) (v : V), vs = [.ref a, v] ∧ OexC K C ∧ PySem.W.findIn K (.ref C) f = some none ∧ H a = some (exo a C none) ∧
  ∀ d, H d = none → d ≠ a → Q .non (upd (upd H d (exd d [(f, v)])) a (exo a C (some d)))
/-- its body's reading -/
theorem xi_reading {K : PySem.W.Frag} {C : Addr} {f : Str} {t : Str} {N : List Str} (hN : N = [("self" : Str), f]) (vs : List V) (H : Hp) (Q : VK) (E : XK) (h : spXi K C f vs H Q E) :
    tSeq (tDrop (tVeI K (tCons (tVar 0) (tCons (tC (.str t)) tNil)))) (tOst K f (tVar 0) (tVar 1)) { nx := fun _ H' => Q .non H', rt := Q } (start N vs) H := by
  obtain ⟨a, v, rfl, T, no, ha, k⟩ := h
  subst hN
  refine ⟨_, rfl, a, C, [.str t], rfl, (by show 1 ≤ 1000; decide), T, ha, _, rfl, _, rfl, a, C, rfl, T, no, .inl ⟨ha, k⟩⟩
/-- X(e) -/
abbrev tMk1 (K : PySem.W.Frag) (C : Addr) (f : Str) (te : TE) : L2.St → Hp → XK → Prop := tMkO C (spXi K C f) [] (tCons te tNil)
/-- an exception class x with the field f may be made in X -/
structure MkX (X : Cx) (x f : Str) : Prop where
  run : ∀ {e : Expr} {te : TE} {p pos : Pos}, Gl X x → PE X e te → starEach [e] X.env = (false, eval e X.env) :: starEach [] X.env → PMk X (.Call (.Name x p) [e] [] pos) (tMk1 X.K (He.ga X.K x) f te)
theorem heap_back {H1 : Hp} {a d C : Addr} {fs : List (Str × V)} {o : HO} (ha : H1 a = none) (hd : d ≠ a) :
    upd (del (upd (upd (upd H1 a (exo a C none)) d o) a (exo a C (some d))) a) d (.xd fs) = upd H1 d (.xd fs) := by
  funext b
  by_cases h1 : b = d
  · subst h1
    rw [upd_same, upd_same]
  · rw [upd_ne h1, upd_ne h1]
    by_cases h2 : b = a
    · subst h2
      rw [del_same, ha]
    · rw [del_ne h2, upd_ne h2, upd_ne h1, upd_ne h2]
/-- behind e's value: what the raise asks -/
theorem mk_at {K : PySem.W.Frag} {C : Addr} {f : Str} {v : V} {H1 : Hp} {Q : XK} (T : OexC K C) (no : PySem.W.findIn K (.ref C) f = some none) (k : ∀ d, H1 d = none → Q (.ref C) (some d) (upd H1 d (.xd [(f, v)]))) :
    [v].length ≤ 1000 ∧ ∀ a, H1 a = none → spXi K C f (.ref a :: ([v] ++ [])) (upd H1 a (exo a C none))
      (fun r H2 => r = .non ∧ ∃ (d : Addr) (fs : List (Str × V)), H2 a = some (exo a C (some d)) ∧ H2 d = some (exd d fs) ∧ H1 d = none ∧ Q (.ref C) (some d) (upd (del H2 a) d (.xd fs))) (fun _ _ _ => False) := by
  refine ⟨(by show 1 ≤ 1000; decide), fun a ha => ⟨a, v, rfl, T, no, upd_same, fun d hd hda => ?_⟩⟩
  have hd1 : H1 d = none := by rw [upd_ne hda] at hd; exact hd
  refine ⟨rfl, d, [(f, v)], upd_same, ?_, hd1, ?_⟩
  · rw [upd_ne hda, upd_same]
  · rw [heap_back ha hda]
    exact k d hd1
theorem mkX_of {X : Cx} {x f : Str} {k : Nat} {fd : FuncData} (T : Xc X.K x f) (hm : X.mg x = some (.ref (He.ga X.K x))) (F : FnOk X.prog X.w X.K X.mg X.base (L2.CX X.prog X.w) k (He.ma X.K (He.ga X.K x) "__init__") fd [("self" : Str), f] (spXi X.K (He.ga X.K x) f))
    (hb : Binds X.K fd [("self" : Str), f] []) (hr : Room (k + 1) X.A) (hdb : (x == ("__debug__" : Str)) = false := by decide) : MkX X x f := by
  refine ⟨fun {e te p pos} hg he hst => ?_⟩
  exact pmk_oex T.oex T.ini T.tyi F hr hb .nil passL hg hm (pa_cons he pa_nil hst) hdb hst rfl
/-- raise X(e) -/
theorem ps_rs {X : Cx} {x f : Str} {W : WX} {e : Expr} {te : TE} {p pos pos2 : Pos} (hc : X.calm = true) (M : MkX X x f) (tk : Takes X W) (hg : Gl X x) (he : PE X e te) (hst : starEach [e] X.env = (false, eval e X.env) :: starEach [] X.env := by rfl) :
    PS X (.Raise (some (.Call (.Name x p) [e] [] pos)) none pos2) (fun _ σ H => tMk1 X.K (He.ga X.K x) f te σ H fun cls d H' => W cls d σ H') := ps_raise hc tk (M.run hg he hst)
end AT

set_option maxHeartbeats 4000000
namespace AT
open PySem PySem.Spec PyProof.Rows L2
/-- a clause: the class, the name's slot, the suite's reading -/
abbrev Cla := Value × Nat × (Addr → Value → Option Addr → TS)
def wMas (K : PySem.W.Frag) (Wo : WX) (D : Ends) : List Cla → WX
  | [] => Wo
  | (c, i, ts) :: r => fun cls d σ H => ∃ b, PySem.W.exmOne K cls c = some b ∧
      (b = true → ∀ a, H a = none → ts a cls d { nx := fun σ' H' => D.nx (σ'.set i none) H', rt := D.rt, bk := fun σ' H' => D.bk (σ'.set i none) H', ct := fun σ' H' => D.ct (σ'.set i none) H' } (σ.set i (some (.ref a))) H) ∧
      (b = false → wMas K Wo D r cls d σ H)
inductive HdsAs (X : Cx) : List ExceptHandler → List Cla → Prop
  | nil : HdsAs X [] []
  | cons {x n : Str} {c : Value} {i : Nat} {ts : Addr → Value → Option Addr → TS} {s1 : Stmt} {ss : List Stmt} {q1 q2 : Pos} {hds : List ExceptHandler} {l : List Cla} (hN : X.N.Nodup) (hi : X.N[i]? = some n) (hl : X.env.kindOf n = some .local) (hc : Names X x c)
      (hsu : ∀ (a : Addr) (oe : Obj) (cls : Value) (d : Option Addr) (pn : List (Addr × Obj)), Zc cls d oe → (∃ vs, oe.data = .fields vs) → PSs (X.suite a ((a, oe) :: pn)) (s1 :: ss) (ts a cls d)) (r : HdsAs X hds l) :
      HdsAs X (.ExceptHandler (some (.Name x q1)) (some n) (s1 :: ss) q2 :: hds) ((c, i, ts) :: l)
section
variable {X : Cx} {bd : List Stmt} {hd0 : ExceptHandler} {hds : List ExceptHandler} {l : List Cla} {pos : Pos} {tb : WX → TS} {Wo : WX}
theorem ps_try_mas (stk : X.stack = X.env :: X.outer) (frm : X.env.frame = some X.env.locals) (tkn : Takes X Wo)
    (hbd : ∀ (W : WX) (pn : List (Addr × Obj)) (xe : Value → Shared → Prop), Takes (X.tr pn xe) W → PassesOwn (model X.prog X.w) X.A X.env xe → PSs (X.tr pn xe) bd (tb W))
    (hhs : HdsAs X (hd0 :: hds) l) : PS X (.Try bd (hd0 :: hds) [] [] pos) (fun D σ H => tb (wMas X.K Wo D l) D σ H) := by
  constructor
  intro pins s σ H D I h
  have oki := I.ok
  have frs2 : X.A.frames = some (X.env :: X.outer) := by rw [oki.frames, stk]
  refine wpAny_Try_except ?_
  refine wpAny_mono ((hbd (wMas X.K Wo D l) (X.pn ++ pins) (fun ev t1 => wpAny (model X.prog X.w) X.A (noteFrame ev X.env) (fun _ t2 => wpAny (model X.prog X.w) X.A (setFlight ev none) (fun _ t3 =>
    wpAny (model X.prog X.w) X.A (handleBy ev X.env (hd0 :: hds)) (SP X pins D) X.xe t3) X.xe t2) X.xe t1) (fun u t xx => ?_) PassesOwn.looking).run [] s σ H D (I.toTry _) h) (fun fl t1 hfl => ?_) (fun _ _ z => z)
  · obtain ⟨a, G, tI, pp, σ1, H1, cls, d, rfl, Jt, nbh, upI, sk, na, eos, abr, wsh⟩ := xx
    have J1 : Inv X pins σ1 H1 tI := Jt.ofTry oki
    have sk2 : Sky G (X.env :: X.outer) a (Zc cls d) X.env.locals t.heap := by rw [← stk]; exact sk
    show wpAny (model X.prog X.w) X.A (noteFrame (.ref a) X.env) _ _ _
    refine Sky.land Zc.steady frs2 frm sk2 fun g3 fy3 ut3 => ?_
    have J3 : Inv X pins σ1 H1 { t with heap := g3 } := J1.landed nbh fy3.1 (upI.trans ut3) eos abr
    obtain ⟨ox3, vx3, gx3, zx3, dx3⟩ := fy3.there
    have nofr : a ∉ frs (X.env :: X.outer) := fun hm => by
      obtain ⟨_, o', e', hnf⟩ := fy3.2.2.1.mem hm
      rw [gx3] at e'
      cases e'
      exact hnf _ dx3
    have neL : a ≠ X.env.locals := fun z => nofr (List.mem_filterMap.mpr ⟨X.env, List.mem_cons_self, by rw [frm, z]⟩)
    have neF : a ∉ X.fs := fun hm => by
      obtain ⟨ev, hev, q⟩ := List.mem_filterMap.mp hm
      exact nofr (List.mem_filterMap.mpr ⟨ev, List.mem_cons_of_mem _ hev, q⟩)
    have Sx := J3.suite gx3 dx3 na neL neF
    have run : ∀ {hs' : List ExceptHandler} {l' : List Cla}, HdsAs X hs' l' → wMas X.K Wo D l' cls d σ1 H1 →
        wpAny (model X.prog X.w) X.A (handleBy (.ref a) X.env hs') (SP X pins D) X.xe { t with heap := g3 } := by
      intro hs' l' hk
      induction hk with
      | nil =>
        intro ww
        refine wpAny_handleBy_nil ?_
        obtain ⟨_, _, _, ob, vb, Tb, oTb, tsb, gb, zb, db, b1, _⟩ := id fy3
        unfold PySem.passOn
        refine wpAny_bind (wpAny_field gb db b1 ?_)
        rw [if_neg (by simp)]
        have fin : wpAny (model X.prog X.w) X.A (setFlight (.ref a) X.env.frame) (fun _ t4 => wpAny (model X.prog X.w) X.A (throw (.ref a) : Sem Flow) (SP X pins D) X.xe t4) X.xe { t with heap := g3 } := by
          rw [frm]
          refine HandSPX.setFlight_upZ fy3 fun g4 hg4 ut4 => wpAny_throw (tkn _ _ ?_)
          exact ⟨a, G, tI, pins, σ1, H1, cls, d, rfl, J1, nbh, (upI.trans ut3).trans ut4, .inr (.inr (by rw [stk]; exact hg4)), na, eos, abr, ww⟩
        first
          | exact wpAny_bind (wpAny_pure (wpAny_bind fin))
          | exact wpAny_bind fin
      | @cons x n c i ts s1 ss q1 q2 hds2 l2 hN hi hl hc hsu r ih =>
        intro ww
        obtain ⟨b, hb1, yes, nay⟩ := ww
        refine wpAny_handleBy_cons (codeAny_handlers_test ?_) (by intro q; cases q)
        have LT : PySem.W.Looks (model X.prog X.w) g3 (typeOf (.ref a)) cls := fun _ _ _ _ k q => wpAny_typeOf_ref (k _ _ gx3) (by rw [zx3.1]; exact q)
        have LM := PySem.W.exm_one (M := model X.prog X.w) (J3.kIn) LT hb1
        have tst : ∀ {Q : Value → Shared → Prop} {E : Value → Shared → Prop}, Q c { t with heap := g3 } → wpAny (model X.prog X.w) (X.A.mark (some (.ref a))) (eval (.Name x q1) X.env) Q E { t with heap := g3 } := fun {Q E} q => by
          obtain ⟨hg, hdbg, hm | ⟨hm, hv, hnn⟩⟩ := hc
          · exact ld_glob (X := X.suite a ((a, ox3) :: (X.pn ++ pins))) Sx hg hm q hdbg
          · exact ld_blt (X := X.suite a ((a, ox3) :: (X.pn ++ pins))) Sx hg hm hv q hnn hdbg
        refine tst (LM.here ?_)
        cases b with
        | true =>
          refine codeAny_handlers_suite_as ?_
          refine HandSPX.lands_againZ fy3 fun g4 fy4 ut4 => ?_
          have J4 : Inv X pins σ1 H1 { t with heap := g4 } := J1.landed nbh fy4.1 ((upI.trans ut3).trans ut4) eos abr
          obtain ⟨ox4, vx4, gx4, zx4, dx4⟩ := fy4.there
          have Sy := J4.suite gx4 dx4 na neL neF
          refine store_ok (X := X.suite a ((a, ox4) :: (X.pn ++ pins))) (v := .ref a) Sy hN hi (.inl hl) rfl (fun t5 S5 => ?_) (.inr hl)
          refine wpAny_mono ((hsu a ox4 cls d (X.pn ++ pins) zx4 ⟨_, dx4⟩).run [] t5 _ H1 _ S5 (yes rfl a na)) (fun fl t6 hfl => ?_) (fun _ _ z => False.elim z)
          have gone : ∀ {σ6 : L2.St} {H6 : Hp} {Q : Shared → Prop}, Inv (X.suite a ((a, ox4) :: (X.pn ++ pins))) [] σ6 H6 t6 → (∀ t7, Inv X pins (σ6.set i none) H6 t7 → Q t7) →
              wpAny (model X.prog X.w) X.A (do bindName X.env n .none; unbindBehindTheSuite X.env n q2) (fun _ t7 => Q t7) X.xe t6 := fun {_ _ _} S6 hq => gone_ok (S6.unsuite oki) hN hi hl hq
          cases fl with
          | ret u =>
            obtain ⟨_, _, _, S6, rr, qq⟩ := hfl
            exact gone S6 fun _ J7 => ⟨_, _, _, J7, rr, qq⟩
          | _ =>
            obtain ⟨_, _, S6, qq⟩ := hfl
            exact gone S6 fun _ J7 => ⟨_, _, J7, qq⟩
        | false =>
          show wpAny _ X.A (handleBy (.ref a) X.env hds2) _ _ _
          exact ih (nay rfl)
    exact run hhs wsh
  · cases fl with
    | next =>
      obtain ⟨_, _, Jn, q⟩ := hfl
      exact wpAny_execs_nil ⟨_, _, Jn.ofTry oki, q⟩
    | ret u =>
      obtain ⟨_, _, _, Jn, rr, q⟩ := hfl
      exact ⟨_, _, _, Jn.ofTry oki, rr, q⟩
    | _ =>
      obtain ⟨_, _, Jn, q⟩ := hfl
      exact ⟨_, _, Jn.ofTry oki, q⟩
end
end AT

set_option maxHeartbeats 4000000
namespace AT
open PySem PySem.Spec PyProof.Rows L2
/-! ### defs that are called where no repr is under way -/
structure FnG (P : Program) (w : World) (K : PySem.W.Frag) (mg : Str → Option Value) (base : Heap) (CX : CXT) (k : Nat) (f : Addr) (fd : FuncData) (ps : List Str) (sp : Sp) : Prop where
  len : ∀ vs H Q E, sp vs H Q E → vs.length = ps.length
  run : ∀ (A : Around) (outer : List Env) (s : Shared) (H : Hp) (args : Args) (us : List Value) (vs : List V) (Q : VK) (E : XK), A.guards = some [] → Room k A → Env0 P w K mg base A outer s H → BindsTo s fd args (ps.zip us) → Vals vs us → sp vs H Q E →
    codeAny (model P w) A (.call (.ref f) args) (CR CX outer P w H s Q E) s
theorem okG {P : Program} {w : World} {K : PySem.W.Frag} {mg : Str → Option Value} {base : Heap} {x qual : Str} {params : Arguments} {body : List Stmt} {scope : Scope} {dvs : List V} {kws : List (Str × V)} {f : Addr} {fd : FuncData}
    {CX : CXT} {N ps : List Str} {k : Nat} {sp : Sp} (F : FunD K x qual params body scope dvs kws f fd) (S : FnScope N ps scope) (len : ∀ vs H Q E, sp vs H Q E → vs.length = ps.length)
    (hbody : ∀ (cdv : Value) (A : Around) (outer : List Env) (s : Shared) (H : Hp) (vs : List V) (Q : VK) (E : XK), A.guards = some [] → Room k (A.deeper (envOfC qual scope s.heap.objs.size f cdv)) → sp vs H Q E →
      ∃ t, PSs (cxOf CX P w K mg base N qual scope f cdv A outer s H E) body t ∧ t { nx := fun _ H' => Q .non H', rt := Q } (start N vs) H) : FnG P w K mg base CX (k + 1) f fd ps sp := by
  obtain ⟨oc, od, dV, kV, doc, pm, an, cdv, ct, osl, rfl, lk, hcd, _, _⟩ := F.ex
  refine ⟨len, fun A outer s H args us vs Q E hgd hr e0 hbd rv hsp => ?_⟩
  have KI : K.In s.heap := e0.mod.kin.keeps fun b o z => (e0.bs b o z).1
  have nl : s.heap.NoLimit := e0.mod.nolimit.keeps fun b o z => (e0.bs b o z).1
  have kinds : ∀ y ∈ ps.zip us, scope.names.lookup y.1 = some .local ∨ (scope.names.lookup y.1 = some .cell ∧ ((cellsFrom (s.heap.objs.size + 1) scope.names []).lookup y.1).isSome = true) := by
    rintro ⟨n, v⟩ hy
    exact (S.par n (List.of_mem_zip hy).1).imp id fun q => ⟨q, PySem.W.cellsFrom_some _ _ _ (.inl q)⟩
  refine codeAny_call_function hr.depth (KI _ _ lk) rfl S.co S.gen rfl (PySem.W.codeRec_of KI hcd) (hbd _ _ _ _ ?_)
  refine wpAny_newFunctionEnv_cells S.kind kinds fun env he s1 ic => ?_
  subst he
  refine ⟨nl.keeps ic.toInCall.keep, codeAny_func ?_⟩
  obtain ⟨t, ht, hq⟩ := hbody cdv A outer s H vs Q E hgd (hr.deeper _) hsp
  have I1 := inv_start (CX := CX) (E := E) S hr.hd e0 (len _ _ _ _ hsp) rv ic
  refine wpAny_mono (ht.run [] s1 (start N vs) H _ I1 hq) (fun fl s' hfl => ?_) fun _ _ z => z
  cases fl with
  | ret u =>
    obtain ⟨v, _, H', J, r2, q⟩ := hfl
    exact ⟨v, H', J.os, J.bare, J.base, J.hok, r2, q⟩
  | next =>
    obtain ⟨_, H', J, q⟩ := hfl
    exact ⟨V.non, H', J.os, J.bare, J.base, J.hok, rfl, q⟩
  | _ =>
    obtain ⟨_, _, _, q⟩ := hfl
    exact q.elim
section
variable {X : Cx} {CX : CXT} {k : Nat} {f : Addr} {fd : FuncData} {ps : List Str} {sp : Sp} {dvs : List V} {ds : List Value} {E : XK} {x : Str} {p pos : Pos} {e : Expr} {es : List Expr} {t : TA}
theorem run_g {pins : List (Addr × Obj)} {σ : L2.St} {H : Hp} {s : Shared} {Q : VK} {us : List Value} {vs : List V} (F : FnG X.prog X.w X.K X.mg X.base CX k f fd ps sp) (hgd : X.A.guards = some []) (hr : Room k X.A) (hb : Binds X.K fd ps ds) (hd : Vals dvs ds) (hx : Passes CX X E)
    (I : Inv X pins σ H s) (r : Vals vs us) (h : sp (vs ++ dvs) H Q E) : wpAny (model X.prog X.w) X.A (call (.ref f) us) (EP X pins σ Q) X.xe s := by
  have r2 : Vals (vs ++ dvs) (us ++ ds) := r.append hd
  have hlen : (us ++ ds).length = ps.length := r2.length.symm.trans (F.len _ _ _ _ h)
  refine wpAny_call (codeAny_mono (F.run X.A X.stack s H ⟨us, []⟩ (us ++ ds) (vs ++ dvs) Q E hgd hr I.env0 (hb s us I.kIn hlen) r2 h) fun res s' hq => ?_)
  cases res with
  | error er => exact hx pins σ H s er s' I hq
  | ok fl =>
    cases fl with
    | ret u => exact I.after hq
    | _ => exact False.elim hq
theorem pe_callG (F : FnG X.prog X.w X.K X.mg X.base CX k f fd ps sp) (hgd : X.A.guards = some []) (hr : Room k X.A) (hg : Gl X x) (hm : X.mg x = some (.ref f)) (hk : PySem.W.keepIn X.K (.ref f) = true) (hb : Binds X.K fd ps ds) (hd : Vals dvs ds) (hx : Passes CX X E)
    (ha : PA X (e :: es) t) (hdb : (x == ("__debug__" : Str)) = false := by decide) (hst : starEach (e :: es) X.env = (false, eval e X.env) :: starEach es X.env := by rfl) (hns : (backTo pos (starEach es X.env)).any (·.1) = false := by rfl) :
    PE X (.Call (.Name x p) (e :: es) [] pos) (tCall sp dvs E t) := by
  constructor
  intro pins s σ H Q I h
  refine wpAny_Call_Name_kw (ld_glob I hg hm ?_ hdb)
  refine PySem.W.callWith_K (h₀ := X.base) I.ok.mod.kin hk (thn (ha.run pos pins s σ H _ I h) fun us s1 hh => ?_) hst hns
  obtain ⟨vs, H1, I1, r, q⟩ := hh
  exact ⟨I1.kIn, run_g F hgd hr hb hd hx I1 r q⟩
theorem pe_callG0 (F : FnG X.prog X.w X.K X.mg X.base CX k f fd ps sp) (hgd : X.A.guards = some []) (hr : Room k X.A) (hg : Gl X x) (hm : X.mg x = some (.ref f)) (hk : PySem.W.keepIn X.K (.ref f) = true) (hb : Binds X.K fd ps ds) (hd : Vals dvs ds) (hx : Passes CX X E)
    (hdb : (x == ("__debug__" : Str)) = false := by decide) : PE X (.Call (.Name x p) [] [] pos) (tCall sp dvs E tNil) := by
  constructor
  intro pins s σ H Q I h
  exact wpAny_Call_Name_kw (ld_glob I hg hm (PySem.W.callWith_K0 I.kIn hk (run_g (us := []) F hgd hr hb hd hx I .nil h)) hdb)
end
/-! ### data: what stands under a value; repr -/
mutual
inductive Dd (K : PySem.W.Frag) (H : Hp) : V → PyData → Prop
  | non : Dd K H .non .none
  | bl (b : Bool) : Dd K H (.bl b) (.bool b)
  | int (i : Int) : Dd K H (.int i) (.int i)
  | str (x : Str) : Dd K H (.str x) (.str x)
  | lst {a : Addr} {xs : List V} {ds : List PyData} : SqL K H a xs → DdAll K H xs ds → Dd K H (.ref a) (.list ds)
  | tup {a : Addr} {xs : List V} {ds : List PyData} : SqT K H a xs → DdAll K H xs ds → Dd K H (.ref a) (.tuple ds)
  | emp {a : Addr} : H a = some (.dK []) → Dd K H (.ref a) (.dict [])
inductive DdAll (K : PySem.W.Frag) (H : Hp) : List V → List PyData → Prop
  | nil : DdAll K H [] []
  | cons {v : V} {vs : List V} {d : PyData} {ds : List PyData} : Dd K H v d → DdAll K H vs ds → DdAll K H (v :: vs) (d :: ds)
end
section
variable {X : Cx} {pins : List (Addr × Obj)} {σ : L2.St} {H : Hp} {s : Shared}
theorem sys_free (hK : ∃ o, X.K.lookup sysModules = some o ∧ o.cls = .type "dict") (I : Inv X pins σ H s) : H sysModules = none := by
  obtain ⟨o, ho, _⟩ := hK
  exact (I.bs sysModules o (I.ok.mod.kin _ _ ho)).2
theorem sql_nosys (hK : ∃ o, X.K.lookup sysModules = some o ∧ o.cls = .type "dict") (I : Inv X pins σ H s) {a : Addr} {xs : List V} (h : SqL X.K H a xs) : a ≠ sysModules := by
  intro e
  subst e
  rcases h with (h | ⟨o, h⟩) | ⟨o, its, n, h, hc, _⟩
  · rw [sys_free hK I] at h; cases h
  · rw [sys_free hK I] at h; cases h
  · obtain ⟨o2, h2, hc2⟩ := hK
    rw [h] at h2
    cases h2
    rw [hc] at hc2
    exact absurd (Value.type.inj hc2) (by decide)
theorem plainL_at {h : Heap} {a : Addr} {its : Array Value} (p : PlainL h a its) : ∃ o n, h.get? a = some o ∧ o.cls = .type "list" ∧ o.data = .seq its n :=
  let ⟨o, n, e, c, _, q⟩ := p
  ⟨o, n, e, c, q⟩
mutual
theorem Dd.reads (hK : ∃ o, X.K.lookup sysModules = some o ∧ o.cls = .type "dict") (I : Inv X pins σ H s) : ∀ (d : PyData) (v : V) (u : Value), Dd X.K H v d → RelV v u → ∃ as, Reads s.heap u d as ∧ sysModules ∉ as
  | _, _, _, .non, r => by cases r; exact ⟨[], .none, by simp⟩
  | _, _, _, .bl b, r => by cases r; exact ⟨[], .bool b, by simp⟩
  | _, _, _, .int i, r => by obtain ⟨t, rfl⟩ := r; exact ⟨[], .int i t, by simp⟩
  | _, _, _, .str x, r => by obtain ⟨t, rfl⟩ := r; exact ⟨[], .str x t, by simp⟩
  | _, _, _, .lst hl hd, r => by
    cases r
    have hn := sql_nosys hK I hl
    obtain ⟨its, rv, hpl, _⟩ := I.list hl
    obtain ⟨o, n, ho, hc, hda⟩ := plainL_at hpl
    obtain ⟨as, ra, na⟩ := Dd.readsAll hK I _ _ _ hd rv
    exact ⟨_, .list ho hc hda (by simpa using ra), fun hm => by
      rcases List.mem_cons.mp hm with q | q
      · exact hn q.symm
      · exact na q⟩
  | _, _, _, .tup hl hd, r => by
    cases r
    obtain ⟨its, rv, ⟨o, ho, hc, n, hda⟩, _⟩ := I.tuple hl
    obtain ⟨as, ra, na⟩ := Dd.readsAll hK I _ _ _ hd rv
    exact ⟨_, .tuple ho hc hda (by simpa using ra), na⟩
  | _, _, _, .emp (a := a) he, r => by
    cases r
    obtain ⟨_, hs, vs, kv, o, es, ep, ho, hx, hda, _, hp, _⟩ := I.hok _ _ he
    cases kv
    have he : es.toList = [] := by
      generalize es.toList = l at hp
      cases hp
      rfl
    refine ⟨_, .dict (kvs := []) (as := []) (bs := []) ho hx.1 hda (by rw [he]; exact .nil) (by rw [he]; exact .nil), fun hm => ?_⟩
    rcases List.mem_cons.mp hm with q | q
    · rw [q] at hs
      simp at hs
    · simp at q
theorem Dd.readsAll (hK : ∃ o, X.K.lookup sysModules = some o ∧ o.cls = .type "dict") (I : Inv X pins σ H s) : ∀ (ds : List PyData) (vs : List V) (us : List Value), DdAll X.K H vs ds → Vals vs us → ∃ as, ReadsAll s.heap us ds as ∧ sysModules ∉ as
  | _, _, _, .nil, r => by cases r; exact ⟨[], .nil, by simp⟩
  | _, _, _, .cons hd hr, r => by
    cases r with
    | cons r1 r2 =>
      obtain ⟨as, ra, na⟩ := Dd.reads hK I _ _ _ hd r1
      obtain ⟨bs, rb, nb⟩ := Dd.readsAll hK I _ _ _ hr r2
      exact ⟨_, .cons ra rb, fun hm => (List.mem_append.mp hm).elim na nb⟩
end
/-- repr(x) of data -/
def rRepr (K : PySem.W.Frag) : List V → Hp → VK → Prop := fun xs H Q => ∃ (x : V) (d : PyData), xs = [x] ∧ Dd K H x d ∧ d.showable = true ∧ d.depth ≤ 50 ∧ d.shown.length ≤ sizeLine ∧ Q (.str d.shown) H
theorem call_repr {k : Nat} (hgd : X.A.guards = some []) (hr : Room k X.A) (hK : ∃ o, X.K.lookup sysModules = some o ∧ o.cls = .type "dict") : CallR X (.builtin "repr") (rRepr X.K) := by
  intro pins s σ H xs us Q I r h
  obtain ⟨x, d, rfl, hd, hsh, hdp, hsz, q⟩ := h
  obtain ⟨u, rfl, ru⟩ := vals1 r
  obtain ⟨as, hR, hns⟩ := hd.reads hK I _ _ u ru
  have hun := hr.units
  cases hR with
  | none => exact PySem.P.repr_of_none ⟨.str _, H, I.tok _, ⟨_, rfl⟩, q⟩
  | bool b => exact PySem.P.repr_of_bool ⟨.str _, H, I.tok _, ⟨_, rfl⟩, q⟩
  | int i t => exact PySem.P.repr_of_int (of_decide_eq_true hsh) ⟨.str _, H, I.tok _, ⟨_, rfl⟩, q⟩
  | str y t => exact PySem.P.repr_of_str ⟨.str _, H, I.tok _, ⟨_, rfl⟩, q⟩ hsz
  | list h1 h2 h3 h4 =>
    exact repr_of_reads' (.list h1 h2 h3 h4) hsh (fun _ => hns) hgd (by omega) (fun _ _ z => z) (fun h' u' tk kp => ⟨.str _, H, I.kept kp, ⟨_, rfl⟩, q⟩) hsz
  | tuple h1 h2 h3 h4 =>
    exact repr_of_reads' (.tuple h1 h2 h3 h4) hsh (fun _ => hns) hgd (by omega) (fun _ _ z => z) (fun h' u' tk kp => ⟨.str _, H, I.kept kp, ⟨_, rfl⟩, q⟩) hsz
  | dict h1 h2 h3 h4 h5 =>
    exact repr_of_reads' (.dict h1 h2 h3 h4 h5) hsh (fun _ => hns) hgd (by omega) (fun _ _ z => z) (fun h' u' tk kp => ⟨.str _, H, I.kept kp, ⟨_, rfl⟩, q⟩) hsz
end
end AT

set_option maxHeartbeats 4000000
namespace AT
open PySem PySem.Spec PyProof.Rows L2
/-- the law's call, from its def's promise -/
theorem lawG {P : Program} {w : World} {K : PySem.W.Frag} {mg mb : Str → Option Value} {CX : CXT} {k : Nat} {fa a : Addr} {fd : FuncData} {x : Str} {sp : Sp} {st : Shared} {vs : List Value} {ns : List Int}
    (KI : K.In st.heap) (hG : st.heap.Ns mainGlobals mg) (hB : st.heap.Ns builtinsNs mb) (hBb : ∀ x : Str, x ≠ "__name__" → mb x = bootBuiltins x) (hNl : st.heap.NoLimit) (hgs : st.gens = #[])
    (hob : st.heap.get? a = some { cls := .type "list", data := .seq vs.toArray }) (hin : IntsAre vs ns) (hsz : ns.length ≤ sizeLine) (hr : Room k callerA)
    (F : ∀ base : Heap, K.In base → base.Ns mainGlobals mg → FnG P w K mg base CX k fa fd [x] sp) (hbd : ∀ (s : Shared) (u : Value), BindsTo s fd ⟨[u], []⟩ [(x, u)])
    (hsp : ∀ H : Hp, Only H → SqL K H a (ns.map V.int) → sp [.ref a] H (fun v _ => v = .bl true) fun _ _ _ => False)
    (hno : ∀ H e s', CX [] H st (fun _ _ _ => False) e s' → False) :
    codeAny (model P w) callerA (.call (.ref fa) ⟨[.ref a], []⟩) (fun r s' => r = .ok (.ret (.bool true)) ∧ OldK st.heap s'.heap ∧ s'.os = st.os ∧ AllBare s'.gens) st := by
  have rv := vals_ints hin
  have main : ∀ H : Hp, Only H → SqL K H a (ns.map V.int) → HOk P w H st.heap → (∀ b, H b ≠ none → b = a) → (H a ≠ none → K.lookup a = none) →
      codeAny (model P w) callerA (.call (.ref fa) ⟨[.ref a], []⟩) (fun r s' => r = .ok (.ret (.bool true)) ∧ OldK st.heap s'.heap ∧ s'.os = st.os ∧ AllBare s'.gens) st := by
    intro H hO hS hok hA hKa
    have free : ∀ {b : Addr} {o : Obj} {es : Array DictEntry} {ep : Nat}, st.heap.get? b = some o → o.data = .dict es ep → H b = none := by
      intro b o es ep e d
      cases q : H b with
      | none => rfl
      | some u =>
        obtain rfl : b = a := hA b (by rw [q]; exact Option.some_ne_none u)
        rw [hob] at e
        cases e
        cases d
    have nsH : ∀ {b : Addr} {m : Str → Option Value}, st.heap.Ns b m → (hidT st.heap H).Ns b m := by
      rintro b m ⟨o, es, ep, e, d, rr⟩
      exact ⟨o, es, ep, hidT_get e (free e d), d, rr⟩
    have KH : K.In (hidT st.heap H) := by
      intro b o e
      refine hidT_get (KI b o e) ?_
      cases q : H b with
      | none => rfl
      | some u =>
        obtain rfl : b = a := hA b (by rw [q]; exact Option.some_ne_none u)
        rw [hKa (by rw [q]; exact Option.some_ne_none u)] at e
        cases e
    have hM : Mod K mg (hidT st.heap H) := by
      obtain ⟨mc, h1, h2⟩ := hNl
      exact ⟨KH, nsH hG, ⟨mb, nsH hB, hBb⟩, ⟨mc, nsH h1, h2⟩⟩
    have e0 : Env0 P w K mg (hidT st.heap H) callerA [] st H :=
      { frames := rfl, mod := hM, bs := fun b o e => of_hidT e, bsz := Nat.le_of_eq (hidT_size _ _), funs := trivial, frf := (by intro b hb; exact absurd hb (by simp [frs])), hok := hok, bare := .of_eq hgs }
    refine codeAny_mono ((F _ KH (nsH hG)).run callerA [] st H ⟨[.ref a], []⟩ [.ref a] [.ref a] _ _ rfl hr e0 (hbd st (.ref a)) (.cons rfl .nil) (hsp H hO hS)) fun r s' h => ?_
    cases r with
    | error e => exact (hno H e s' h).elim
    | ok fl =>
      cases fl with
      | ret u =>
        obtain ⟨v, H', eos, br, un, hok', r', q⟩ := h
        obtain rfl : v = .bl true := q
        obtain rfl : u = Value.bool true := r'
        refine ⟨rfl, OldK.of_keep fun b o e => ?_, eos, br⟩
        cases q : H b with
        | none => exact un.keep b o e q (by simp [frs]) (by simp)
        | some u =>
          rcases hO b with z | ⟨ob, xs, z⟩
          · rw [q] at z
            cases z
          · have y2 := (hok' b _ (un.frzs b ob _ z)).1
            have y1 := (hok b _ z).1
            rw [e] at y1
            cases y1
            exact y2
      | _ => exact False.elim h
  cases hk : K.lookup a with
  | some o =>
    have e := KI a o hk
    rw [hob] at e
    cases e
    refine main (fun _ => none) (fun _ => .inl rfl) (.inr ⟨_, vs.toArray, _, hk, rfl, rfl, rfl, ?_, by simpa using rv⟩) ?_ (fun b z => absurd rfl z) fun z => absurd rfl z
    · rw [List.size_toArray, hin.length]
      exact hsz
    · intro b u z
      exact nomatch (show (none : Option HO) = some u from z)
  | none =>
    let o1 : Obj := { cls := .type "list", data := .seq vs.toArray }
    refine main (fun b => if b = a then some (.frz o1 (.lst (ns.map V.int))) else none) (fun b => ?_) (.inl (.inr ⟨o1, if_pos rfl⟩)) (fun b u z => ?_) (fun b z => ?_) fun _ => hk
    · by_cases hb : b = a
      · exact .inr ⟨_, _, if_pos hb⟩
      · exact .inl (if_neg hb)
    · by_cases hb : b = a
      · have y := (if_pos hb).symm.trans z
        cases y
        subst hb
        exact ⟨hob, by rw [List.length_map]; exact hsz, vs, _, rv, hob⟩
      · have y := (if_neg hb).symm.trans z
        cases y
    · by_cases hb : b = a
      · exact hb
      · exact absurd (if_neg hb) z
theorem walkG {l : PySem.W.OpenLaw} {n k : Nat} {q : Program} {loose : List Str} {XP : (Str → Option Value) → Heap → Prop} {YP : World → Heap → Prop} {d : DefRec} {CX : World → CXT} {x : Str}
    (hn : l.most = some n) (hn2 : n ≤ sizeLine) (hdf : d.params.defaults = []) (hr : Room k callerA)
    (F : ∀ (w : World) (mg : Str → Option Value) (fa : Addr) (h : Heap), YP w h → h.Ns mainGlobals mg → mg d.name = some (.ref fa) →
      ∃ (K : PySem.W.Frag) (fd : FuncData) (sp : Sp), K.In h ∧ (∀ (s : Shared) (u : Value), BindsTo s fd ⟨[u], []⟩ [(x, u)]) ∧
        (∀ (H : Hp) (a : Addr) (ns : List Int), ns.length ≤ n → Only H → SqL K H a (ns.map V.int) → sp [.ref a] H (fun v _ => v = .bl true) fun _ _ _ => False) ∧
        ∀ base : Heap, K.In base → base.Ns mainGlobals mg → FnG l.prog w K mg base (CX w) k fa fd [x] sp)
    (hno : ∀ (w : World) (H : Hp) (s : Shared) (e : Value) (s' : Shared), CX w [] H s (fun _ _ _ => False) e s' → False) :
    PySem.W.WalkO q loose XP YP l.row.toRowW d [] (fun f vs => PySem.call f vs) := by
  refine Att.attach_call hn hdf fun w _ st mg mb fa o pm cd doc a vs ns G Y _ _ _ hmg hob hin hlen hgs => ?_
  obtain ⟨K, fd, sp, KI, hbd, hsp, hF⟩ := F w mg fa _ Y G.T.g hmg
  exact lawG KI G.T.g G.T.b G.T.builtins G.T.nolimit hgs hob hin (Nat.le_trans hlen hn2) hr hF hbd (fun H hO hS => hsp H a ns hlen hO hS) fun H e s' => hno w H st e s'
theorem cx_false {P : Program} {w : World} {outer : List Env} {H : Hp} {s : Shared} {e : Value} {s' : Shared} (h : L2.CX P w outer H s (fun _ _ _ => False) e s') : False := by
  obtain ⟨_, _, _, _, _, _, _, _, _, _, _, _, z⟩ := h
  exact z
end AT

set_option maxHeartbeats 4000000
namespace AT
open PySem PySem.Spec PyProof.Rows L2
/-- a def that keeps a promise, and how it is called with all its parameters -/
def Ok (P : Program) (w : World) (K : PySem.W.Frag) (mg : Str → Option Value) (base : Heap) (k : Nat) (f : Addr) (ps : List Str) (sp : Sp) : Prop :=
  ∃ fd, FnOk P w K mg base (L2.CX P w) k f fd ps sp ∧ Binds K fd ps [] ∧ PySem.W.keepIn K (.ref f) = true
/-- .. with its last parameters left to their defaults dvs -/
def OkD (P : Program) (w : World) (K : PySem.W.Frag) (mg : Str → Option Value) (base : Heap) (k : Nat) (f : Addr) (ps : List Str) (dvs : List V) (sp : Sp) : Prop :=
  ∃ fd ds, FnOk P w K mg base (L2.CX P w) k f fd ps sp ∧ Vals dvs ds ∧ Binds K fd ps ds ∧ PySem.W.keepIn K (.ref f) = true
/-- .. where no repr is under way -/
def OkG (P : Program) (w : World) (K : PySem.W.Frag) (mg : Str → Option Value) (base : Heap) (k : Nat) (f : Addr) (ps : List Str) (sp : Sp) : Prop :=
  ∃ fd, FnG P w K mg base (L2.CX P w) k f fd ps sp ∧ Binds K fd ps [] ∧ PySem.W.keepIn K (.ref f) = true
section
variable {X : Cx} {k : Nat} {f C : Addr} {ps : List Str} {sp : Sp} {dvs : List V} {E : XK} {x m : Str} {p pos apos : Pos} {e o : Expr} {es : List Expr} {ta : TE} {t : TA}
theorem ok_call (F : Ok X.prog X.w X.K X.mg X.base k f ps sp) (hr : Room k X.A) (hg : Gl X x) (hm : X.mg x = some (.ref f)) (hx : Passes (L2.CX X.prog X.w) X E) (ha : PA X (e :: es) t)
    (hdb : (x == ("__debug__" : Str)) = false := by decide) (hst : starEach (e :: es) X.env = (false, eval e X.env) :: starEach es X.env := by rfl) (hns : (backTo pos (starEach es X.env)).any (·.1) = false := by rfl) :
    PE X (.Call (.Name x p) (e :: es) [] pos) (tCall sp [] E t) := by
  obtain ⟨fd, F1, b, kp⟩ := F
  exact pe_call F1 hr hg hm kp b .nil hx ha hdb hst hns
theorem ok_call0 (F : Ok X.prog X.w X.K X.mg X.base k f [] sp) (hr : Room k X.A) (hg : Gl X x) (hm : X.mg x = some (.ref f)) (hx : Passes (L2.CX X.prog X.w) X E)
    (hdb : (x == ("__debug__" : Str)) = false := by decide) : PE X (.Call (.Name x p) [] [] pos) (tCall sp [] E tNil) := by
  obtain ⟨fd, F1, b, kp⟩ := F
  exact pe_call0 F1 hr hg hm kp b .nil hx hdb
theorem ok_callG (F : OkG X.prog X.w X.K X.mg X.base k f ps sp) (hgd : X.A.guards = some []) (hr : Room k X.A) (hg : Gl X x) (hm : X.mg x = some (.ref f)) (hx : Passes (L2.CX X.prog X.w) X E) (ha : PA X (e :: es) t)
    (hdb : (x == ("__debug__" : Str)) = false := by decide) (hst : starEach (e :: es) X.env = (false, eval e X.env) :: starEach es X.env := by rfl) (hns : (backTo pos (starEach es X.env)).any (·.1) = false := by rfl) :
    PE X (.Call (.Name x p) (e :: es) [] pos) (tCall sp [] E t) := by
  obtain ⟨fd, F1, b, kp⟩ := F
  exact pe_callG F1 hgd hr hg hm kp b .nil hx ha hdb hst hns
theorem ok_callG0 (F : OkG X.prog X.w X.K X.mg X.base k f [] sp) (hgd : X.A.guards = some []) (hr : Room k X.A) (hg : Gl X x) (hm : X.mg x = some (.ref f)) (hx : Passes (L2.CX X.prog X.w) X E)
    (hdb : (x == ("__debug__" : Str)) = false := by decide) : PE X (.Call (.Name x p) [] [] pos) (tCall sp [] E tNil) := by
  obtain ⟨fd, F1, b, kp⟩ := F
  exact pe_callG0 F1 hgd hr hg hm kp b .nil hx hdb
/-- in a try's body -/
theorem ok_callS {W : WX} (F : Ok X.prog X.w X.K X.mg X.base k f ps sp) (hr : Room k X.A) (hg : Gl X x) (hm : X.mg x = some (.ref f)) (tk : Takes X W) (ha : PA X (e :: es) t)
    (hdb : (x == ("__debug__" : Str)) = false := by decide) (hst : starEach (e :: es) X.env = (false, eval e X.env) :: starEach es X.env := by rfl) (hns : (backTo pos (starEach es X.env)).any (·.1) = false := by rfl) :
    PE X (.Call (.Name x p) (e :: es) [] pos) (tCallSD sp [] (fun σ cls d H => W cls d σ H) t) := by
  obtain ⟨fd, F1, b, kp⟩ := F
  exact pe_callSD F1 hr hg hm kp b .nil (fun σ => passAt tk σ) ha hdb hst hns
/-- C(e, ..) -/
theorem ok_make (M : Mk X.K C f) (F : Ok X.prog X.w X.K X.mg X.base k f ps sp) (hr : Room (k + 1) X.A) (hg : Gl X x) (hm : X.mg x = some (.ref C)) (hx : Passes (L2.CX X.prog X.w) X E) (ha : PA X (e :: es) t)
    (hdb : (x == ("__debug__" : Str)) = false := by decide) (hst : starEach (e :: es) X.env = (false, eval e X.env) :: starEach es X.env := by rfl) (hns : (backTo pos (starEach es X.env)).any (·.1) = false := by rfl) :
    PE X (.Call (.Name x p) (e :: es) [] pos) (tMake C sp [] E t) := by
  obtain ⟨fd, F1, b, kp⟩ := F
  exact pe_make M F1 hr hg hm b .nil hx ha hdb hst hns
theorem ok_makeD (M : Mk X.K C f) (F : OkD X.prog X.w X.K X.mg X.base k f ps dvs sp) (hr : Room (k + 1) X.A) (hg : Gl X x) (hm : X.mg x = some (.ref C)) (hx : Passes (L2.CX X.prog X.w) X E) (ha : PA X (e :: es) t)
    (hdb : (x == ("__debug__" : Str)) = false := by decide) (hst : starEach (e :: es) X.env = (false, eval e X.env) :: starEach es X.env := by rfl) (hns : (backTo pos (starEach es X.env)).any (·.1) = false := by rfl) :
    PE X (.Call (.Name x p) (e :: es) [] pos) (tMake C sp dvs E t) := by
  obtain ⟨fd, ds, F1, vd, b, kp⟩ := F
  exact pe_make M F1 hr hg hm b vd hx ha hdb hst hns
/-- o.f, a property -/
theorem ok_prop {g : Addr} (c : Cls X.K C) (hp : ∃ q, PropOf X.K C m q g) (F : Ok X.prog X.w X.K X.mg X.base k g [("self" : Str)] sp) (hr : Room (k + 1) X.A) (he : PE X e ta)
    (hab : attributeBase e m X.env (eval e X.env) = eval e X.env := by rfl) : PE X (.Attribute e m pos) (tProp C sp [] E0 ta) := by
  obtain ⟨q, hq⟩ := hp
  obtain ⟨fd, F1, b, kp⟩ := F
  exact pe_prop he c hq F1 hr b .nil passL hab
end
/-- all that the body's proof gives: a def's promise -/
theorem mk_ok {P : Program} {w : World} {K : PySem.W.Frag} {mg : Str → Option Value} {base : Heap} {x qual : Str} {st : Stmt} {kws : List (Str × V)} {f : Addr} {N ps : List Str} {k : Nat} {sp : Sp}
    (F : ∃ fd, FunD K x qual (defArgs st) (defBody st) (defScope st) [] kws f fd) (S : FnScope N ps (defScope st))
    (hb : ∀ (kV doc pm : Value) (an : Option Addr) (cdv ct : Value) (us : List Value), us.length = ps.length → bindArgs (PySem.W.fnOf x qual (defArgs st) (defBody st) (defScope st) .none kV doc pm an cdv ct) ⟨us, []⟩ = pure (ps.zip us))
    (len : ∀ vs H Q E, sp vs H Q E → vs.length = ps.length)
    (body : ∀ (cdv : Value) (A : Around) (outer : List Env) (s : Shared) (H : Hp) (vs : List V) (Q : VK) (E : XK), Room k (A.deeper (envOfC qual (defScope st) s.heap.objs.size f cdv)) → sp vs H Q E →
      ∃ t, PSs (cxOf (L2.CX P w) P w K mg base N qual (defScope st) f cdv A outer s H E) (defBody st) t ∧ t { nx := fun _ H' => Q .non H', rt := Q } (start N vs) H) : Ok P w K mg base (k + 1) f ps sp := by
  obtain ⟨fd, F⟩ := F
  exact ⟨fd, F.ok S len body, F.bindsN hb, F.kp⟩
theorem mk_okG {P : Program} {w : World} {K : PySem.W.Frag} {mg : Str → Option Value} {base : Heap} {x qual : Str} {st : Stmt} {kws : List (Str × V)} {f : Addr} {N ps : List Str} {k : Nat} {sp : Sp}
    (F : ∃ fd, FunD K x qual (defArgs st) (defBody st) (defScope st) [] kws f fd) (S : FnScope N ps (defScope st))
    (hb : ∀ (kV doc pm : Value) (an : Option Addr) (cdv ct : Value) (us : List Value), us.length = ps.length → bindArgs (PySem.W.fnOf x qual (defArgs st) (defBody st) (defScope st) .none kV doc pm an cdv ct) ⟨us, []⟩ = pure (ps.zip us))
    (len : ∀ vs H Q E, sp vs H Q E → vs.length = ps.length)
    (body : ∀ (cdv : Value) (A : Around) (outer : List Env) (s : Shared) (H : Hp) (vs : List V) (Q : VK) (E : XK), (A.deeper (envOfC qual (defScope st) s.heap.objs.size f cdv)).guards = some [] → Room k (A.deeper (envOfC qual (defScope st) s.heap.objs.size f cdv)) → sp vs H Q E →
      ∃ t, PSs (cxOf (L2.CX P w) P w K mg base N qual (defScope st) f cdv A outer s H E) (defBody st) t ∧ t { nx := fun _ H' => Q .non H', rt := Q } (start N vs) H) : OkG P w K mg base (k + 1) f ps sp := by
  obtain ⟨fd, F⟩ := F
  exact ⟨fd, okG F S len (fun cdv A outer s H vs Q E hg => body cdv A outer s H vs Q E hg), F.bindsN hb, F.kp⟩
theorem Ok.mono {P : Program} {w : World} {K : PySem.W.Frag} {mg : Str → Option Value} {base : Heap} {j k : Nat} {f : Addr} {ps : List Str} {sp : Sp} (F : Ok P w K mg base j f ps sp) (h : j ≤ k) : Ok P w K mg base k f ps sp := by
  obtain ⟨fd, F1, b, kp⟩ := F
  exact ⟨fd, F1.mono h, b, kp⟩
theorem Ok.imp {P : Program} {w : World} {K : PySem.W.Frag} {mg : Str → Option Value} {base : Heap} {k : Nat} {f : Addr} {ps : List Str} {sp sp' : Sp} (F : Ok P w K mg base k f ps sp) (h : ∀ vs H Q E, sp' vs H Q E → sp vs H Q E) : Ok P w K mg base k f ps sp' := by
  obtain ⟨fd, F1, b, kp⟩ := F
  exact ⟨fd, F1.imp h, b, kp⟩
/-- an exception's class, made anywhere -/
theorem mk_X {X : Cx} {x f : Str} {k : Nat} (T : Xc X.K x f) (hm : X.mg x = some (.ref (He.ga X.K x))) (F : Ok X.prog X.w X.K X.mg X.base k (He.ma X.K (He.ga X.K x) "__init__") [("self" : Str), f] (spXi X.K (He.ga X.K x) f)) (hr : Room (k + 1) X.A) (hdb : (x == ("__debug__" : Str)) = false := by decide) : MkX X x f := by
  obtain ⟨fd, F1, b, kp⟩ := F
  exact mkX_of T hm F1 b hr hdb
/-- what a callee lets out leaves the def -/
theorem passE {X : Cx} {E : XK} {E1 : Value → Shared → Prop} (hs : X.stack = X.env :: X.outer) (hf : X.env.frame = some X.env.locals) (hex : X.ex = []) (hx : X.xe = fun e s' => wpAny (model X.prog X.w) X.A (leaving X.env e) (fun _ s'' => L2.CX X.prog X.w X.outer X.H_0 X.s_0 E e s'') E1 s') : Passes (L2.CX X.prog X.w) X E :=
  passes_call (takes_of hs hf hex hx) (fun _ _ _ _ z => z)
end AT
namespace AT
open PySem PySem.Spec PyProof.Rows L2
theorem pe_k {X : Cx} {x : Str} {v : V} {pos : Pos} (h : ∃ u, X.mg x = some u ∧ RelV v u) (hg : Gl X x := by rfl) (hd : (x == ("__debug__" : Str)) = false := by decide) : PE X (.Name x pos) (tC v) := by
  obtain ⟨u, hu, r⟩ := h
  exact pe_glob hg hu r hd
/-- // by a divisor of any sign, not 0, below 2 ^ 9000 -/
def CDivZ (_ j : Int) : Prop := j ≠ 0 ∧ j.natAbs.log2 < 9000
theorem op_fdivZ {X : Cx} : OpR X (binaryOp .FloorDiv) (rI CDivZ fun i j => .int (i.fdiv j)) := opI fun _ _ _ _ _ _ _ hc q => floordiv_int hc.1 q (.inl (PyProof.noPylong_of_log2 hc.2))
end AT
namespace AT
open PySem PySem.Spec PyProof.Rows L2
theorem pe_gr {X : Cx} {x : Str} {a : Addr} {pos : Pos} (h : X.mg x = some (.ref a)) (hg : Gl X x := by rfl) (hd : (x == ("__debug__" : Str)) = false := by decide) : PE X (.Name x pos) (tC (.ref a)) := pe_glob hg h rfl hd
end AT
namespace AT
open PySem PySem.Spec PyProof.Rows L2
/-- a def with one default v: called with it left out, and with all given -/
theorem mk_okD1 {P : Program} {w : World} {K : PySem.W.Frag} {mg : Str → Option Value} {base : Heap} {x qual : Str} {st : Stmt} {kws : List (Str × V)} {v : V} {f : Addr} {N ps : List Str} {k n : Nat} {sp : Sp}
    (F : ∃ fd, FunD K x qual (defArgs st) (defBody st) (defScope st) [v] kws f fd) (S : FnScope N ps (defScope st)) (hn : n + 1 = ps.length)
    (hb : ∀ (T : Addr) (kV doc pm : Value) (an : Option Addr) (cdv ct : Value) (us : List Value) (u : Value), us.length = n → ∃ k, bindArgs (PySem.W.fnOf x qual (defArgs st) (defBody st) (defScope st) (.ref T) kV doc pm an cdv ct) ⟨us, []⟩ = seqItems? (.ref T) >>= k ∧ k (some #[u]) = pure (ps.zip (us ++ [u])))
    (hb2 : ∀ (T : Addr) (kV doc pm : Value) (an : Option Addr) (cdv ct : Value) (us : List Value) (u : Value), us.length = n + 1 → ∃ k, bindArgs (PySem.W.fnOf x qual (defArgs st) (defBody st) (defScope st) (.ref T) kV doc pm an cdv ct) ⟨us, []⟩ = seqItems? (.ref T) >>= k ∧ k (some #[u]) = pure (ps.zip us))
    (len : ∀ vs H Q E, sp vs H Q E → vs.length = ps.length)
    (body : ∀ (cdv : Value) (A : Around) (outer : List Env) (s : Shared) (H : Hp) (vs : List V) (Q : VK) (E : XK), Room k (A.deeper (envOfC qual (defScope st) s.heap.objs.size f cdv)) → sp vs H Q E →
      ∃ t, PSs (cxOf (L2.CX P w) P w K mg base N qual (defScope st) f cdv A outer s H E) (defBody st) t ∧ t { nx := fun _ H' => Q .non H', rt := Q } (start N vs) H) :
    Ok P w K mg base (k + 1) f ps sp ∧ OkD P w K mg base (k + 1) f ps [v] sp := by
  obtain ⟨fd, F⟩ := F
  have one : ∀ its : List Value, its.length = 1 → ∃ u, its = [u] := fun its h => List.length_eq_one_iff.mp h
  constructor
  · obtain ⟨ds, vd, b⟩ := F.binds1 (ps := ps) (n + 1) 1 (by simp) (by simpa using hn) (fun T kV doc pm an cdv ct us its h1 h2 => by
      obtain ⟨u, rfl⟩ := one its h2
      obtain ⟨k, e1, e2⟩ := hb2 T kV doc pm an cdv ct us u h1
      exact ⟨k, e1, by simpa using e2⟩)
    cases vd
    exact ⟨fd, F.ok S len body, b, F.kp⟩
  · obtain ⟨ds, vd, b⟩ := F.binds1 (ps := ps) n 0 (by simp) (by simpa using hn) (fun T kV doc pm an cdv ct us its h1 h2 => by
      obtain ⟨u, rfl⟩ := one its h2
      obtain ⟨k, e1, e2⟩ := hb T kV doc pm an cdv ct us u h1
      exact ⟨k, e1, by simpa using e2⟩)
    exact ⟨fd, ds, F.ok S len body, vd, b, F.kp⟩
end AT

set_option maxHeartbeats 4000000
namespace AT
open PySem PySem.Spec PyProof.Rows L2
theorem Same.new {H H' : Hp} {p : Addr} {o : HO} (s : Same H H') (hp : H p = none) : Same H (upd H' p o) := fun b u e => by
  rw [upd_ne (ne_of_none e hp)]
  exact s b u e
theorem Same.up {H : Hp} {p : Addr} {o : HO} (hp : H p = none) : Same H (upd H p o) := Same.new (Same.refl H) hp
theorem Same.tup {K : PySem.W.Frag} {H H' : Hp} {a : Addr} {xs : List V} (e : Same H H') (h : SqT K H a xs) : SqT K H' a xs := by
  rcases h with (h | ⟨o, h⟩) | h
  · exact .inl (.inl (e _ _ h))
  · exact .inl (.inr ⟨o, e _ _ h⟩)
  · exact .inr h
/-- the part of a list that is through, filtered and mapped -/
theorem take_step {α β : Type} {l : List α} {i : Nat} {x : α} (p : α → Bool) (f : α → β) (h : l[i]? = some x) :
    ((l.take (i + 1)).filter p).map f = ((l.take i).filter p).map f ++ (if p x then [f x] else []) := by
  rw [List.take_add_one, h, Option.toList_some, List.filter_append, List.map_append]
  congr 1
  cases hp : p x <;> simp [List.filter, hp]
/-- a comprehension over a text whose element and test only make new objects; the target a name in slot j -/
theorem lc_text {z : Str} {tt : TT} {te : TE} {j : Nat} {vs : List Nat} {σ : L2.St} {H1 : Hp} {D : Addr} {Qd : Hp → Prop} (p : Nat → Bool) (f : Nat → V) (hz : z.cps.size < sizeLine) (hD : H1 D = none)
    (hw : ∀ x, wipe ((wipe σ vs).set j (some x)) vs = wipe σ vs)
    (ht : ∀ (c : Nat) (H : Hp) (R : Bool → Hp → Prop), c ∈ z.cps.toList → Same H1 H → (∀ H', Same H H' → R (p c) H') → tt ((wipe σ vs).set j (some (.str ⟨#[c]⟩))) H R)
    (he : ∀ (c : Nat) (H : Hp) (R : VK), c ∈ z.cps.toList → Same H1 H → (∀ H', Same H H' → R (f c) H') → te ((wipe σ vs).set j (some (.str ⟨#[c]⟩))) H R)
    (hd : ∀ H, Same H1 H → H D = some (.lst ((z.cps.toList.filter p).map f)) → Qd H) :
    ∃ W : Nat → Nat → Hp → Prop, (∃ m, W 0 m (upd H1 D (.lst []))) ∧ ∀ i m H, W i m H →
      ((Its z).stop i H ∧ Qd H) ∨ ((Its z).go i H ∧ ∃ Nx : Hp → Prop, (∀ H', Nx H' → ∃ m', m' < m ∧ W (i + 1) m' H') ∧ ∀ x H', (Its z).yld i H x H' → gName j x (wipe σ vs) H' fun σ2 H2 => wipe σ2 vs = wipe σ vs ∧ tt σ2 H2 fun b H3 =>
        if b = true then te σ2 H3 fun y H4 => ∃ acc, H4 D = some (.lst acc) ∧ acc.length < sizeLine ∧ Nx (upd H4 D (.lst (acc ++ [y]))) else Nx H3) := by
  refine lc_it walk_str (fun i H => Same H1 H ∧ H D = some (.lst (((z.cps.toList.take i).filter p).map f))) ⟨Same.up hD, by rw [upd_same]; rfl⟩ (fun _ _ _ _ => trivial) (fun i x H H' hi hP hY => ?_) (fun H hP => ?_)
  · obtain ⟨sm, hl⟩ := hP
    obtain ⟨rfl, c, hc, rfl⟩ := hY
    have hc' : z.cps.toList[i]? = some c := by rw [Array.getElem?_toList]; exact hc
    have hm : c ∈ z.cps.toList := List.mem_of_getElem? hc'
    have hst := take_step p f hc'
    refine ⟨hw _, ht c H' _ hm sm fun H2 s2 => ?_⟩
    cases hp : p c with
    | false =>
      refine iteF ⟨sm.trans s2, ?_⟩
      rw [hst, hp]
      simpa using s2 _ _ hl
    | true =>
      refine iteT (he c H2 _ hm (sm.trans s2) fun H3 s3 => ⟨_, s3 _ _ (s2 _ _ hl), ?_, ?_, ?_⟩)
      · have h1 : (((z.cps.toList.take i).filter p).map f).length ≤ z.cps.toList.length := by
          rw [List.length_map]
          exact Nat.le_trans (List.length_filter_le _ _) (by rw [List.length_take]; exact Nat.min_le_right _ _)
        have h2 : z.cps.toList.length = z.cps.size := Array.length_toList
        omega
      · exact AT.Same.new ((sm.trans s2).trans s3) hD
      · rw [upd_same, hst, hp]
        rfl
  · obtain ⟨sm, hl⟩ := hP
    have e : z.cps.toList.take z.cps.size = z.cps.toList := by
      rw [← Array.length_toList, List.take_length]
    rw [e] at hl
    exact hd H sm hl
end AT

set_option maxHeartbeats 4000000
namespace AT
open PySem PySem.Spec PyProof.Rows L2
open AutoSeq1 (wpAny_loadPart')
theorem str_declines (z : Str) (u : Tok) (l : Addr) (o : Obj) (es : Array DictEntry) (n : Nat) :
    Meets (Builtin.«str.__eq__» ⟨[.str z u, .ref l], []⟩) (fun _ R s => s.heap.get? l = some o ∧ o.data = .dict es n ∧ R (.ok (.ret .notImplemented)) s) :=
  .of_wp fun prog w A R s h => by
    obtain ⟨hp, g, d, tk, os⟩ := s
    obtain ⟨hl, hc, h⟩ := h
    wp_walk using wpAny_loadPart' hl, wpAny_load hl
    rw [hc]
    wp_walk
    exact ⟨_, rfl, h⟩
section
variable {prog : Program} {w : World} {A : Around} {E : Value → Shared → Prop} {s : Shared}
theorem dict_declines {a : Addr} {z : Str} {u : Tok} {Q : Value → Shared → Prop} (ha : s.TypeIs (.ref a) "dict") (q : Q .notImplemented s) : wpAny (model prog w) A (call (.builtin "dict.__eq__") [.ref a, .str z u]) Q E s := by
  refine wpAny_call_entry PySem.F.slot_dict_eq ha PySem.F.entry_dict_eq ?_ (PySem.F.args_dict_eq_2 _ _)
  show wpAny _ _ (Builtin.Dict.dictSlotArgs "__eq__" ⟨[.ref a, .str z u], []⟩ >>= _) _ _ s
  refine wpAny_bind ?_
  unfold Builtin.Dict.dictSlotArgs
  refine wpAny_bind (wpAny_notOrdered_dict ha ?_)
  show wpAny _ _ (pure (Value.ref a, Value.str z u)) _ _ s
  refine wpAny_pure ?_
  refine wpAny_bind (wpAny_isInstance (T := "str") (typeIs_str s z u) PySem.F.sub_str_dict ?_)
  simp only [Bool.not_false, if_true]
  refine wpAny_bind (wpAny_rule ?_)
  exact wpAny_pure ⟨_, rfl, q⟩
end
/-- an empty dict is unlike a text -/
theorem eq_emp {X : Cx} {pins : List (Addr × Obj)} {σ : L2.St} {H : Hp} {s : Shared} {a : Addr} {z : Str} {u : Tok} {Q : Value → Shared → Prop} {E : Value → Shared → Prop} (I : Inv X pins σ H s) (hu : X.A.units < cLine) (he : H a = some (.dK [])) (q : Q (.bool false) s) :
    wpAny (model X.prog X.w) X.A (compareOp .Eq (.ref a) (.str z u)) Q E s := by
  obtain ⟨_, hs, vs, kv, o, es, ep, ho, hx, hda, _, hp, _⟩ := I.hok _ _ he
  show wpAny _ _ (richCompare .Eq _ _) _ _ _
  have ty : s.TypeIs (.ref a) "dict" := ⟨o, ho, hx.1⟩
  exact SeqAt.rc_eq_decline_or (k := false) ty (typeIs_str s z u) (by decide) PySem.F.sub_str_dict PySem.F.slot_dict_eq PySem.F.slot_str_eq_refl
    (fun _ hq => dict_declines ty hq)
    (fun _ hq => call_meets PySem.F.slot_str_eq_refl (typeIs_str s z u) PySem.F.entry_str_eq (PySem.F.args_str_eq_2 _ _) (str_declines z u a o es ep) ⟨ho, hda, hq⟩)
    (fun _ hq => wpAny_of_eq (rfl : isSame (.ref a) (.str z u) = pure false) hq) (.inr hu) q
/-- x == z of data x, and of an empty dict, and a text z -/
def rEqZ (K : PySem.W.Frag) : R2 := fun x y H Q => ∃ z, y = .str z ∧ ((∃ d, Dp K H x d ∧ SeqAt.shaped d = true ∧ PyData.strOk z = true ∧ Q (.bl (PyData.eqv d (.str z))) H) ∨ ∃ a, x = .ref a ∧ H a = some (.dK []) ∧ Q (.bl false) H)
theorem op_eqZ {X : Cx} (hu : X.A.units + 64 < cLine) : OpR X (compareOp .Eq) (rEqZ X.K) := by
  intro pins s σ H x y v u Q I rx ry h
  obtain ⟨z, rfl, ⟨d, hd, sd, so, q⟩ | ⟨a, rfl, he, q⟩⟩ := h
  · refine op_eqD hu pins s σ H x (.str z) v u Q I rx ry ⟨d, _, hd, .str z, sd, ?_, q⟩
    show (PyData.strOk z && decide (0 ≤ 64)) = true
    rw [so]
    rfl
  · cases rx
    obtain ⟨t, rfl⟩ := ry
    exact eq_emp I (by omega) he ⟨.bl false, H, I, rfl, q⟩
end AT

set_option maxHeartbeats 4000000
namespace AT
open PySem PySem.Spec PyProof.Rows L2
/-- the law's call, from its def's promise -/
theorem lawO {P : Program} {w : World} {K : PySem.W.Frag} {mg mb : Str → Option Value} {CX : CXT} {k : Nat} {fa a : Addr} {x : Str} {sp : Sp} {st : Shared} {vs : List Value} {ns : List Int}
    (KI : K.In st.heap) (hG : st.heap.Ns mainGlobals mg) (hB : st.heap.Ns builtinsNs mb) (hBb : ∀ x : Str, x ≠ "__name__" → mb x = bootBuiltins x) (hNl : st.heap.NoLimit) (hgs : st.gens = #[])
    (hob : st.heap.get? a = some { cls := .type "list", data := .seq vs.toArray }) (hin : IntsAre vs ns) (hsz : ns.length ≤ sizeLine) (hr : Room k callerA)
    (F : ∀ base : Heap, K.In base → base.Ns mainGlobals mg → ∃ fd, FnG P w K mg base CX k fa fd [x] sp ∧ Binds K fd [x] [])
    (hsp : ∀ H : Hp, Only H → SqL K H a (ns.map V.int) → sp [.ref a] H (fun v _ => v = .bl true) fun _ _ _ => False)
    (hno : ∀ H e s', CX [] H st (fun _ _ _ => False) e s' → False) :
    codeAny (model P w) callerA (.call (.ref fa) ⟨[.ref a], []⟩) (fun r s' => r = .ok (.ret (.bool true)) ∧ OldK st.heap s'.heap ∧ s'.os = st.os ∧ AllBare s'.gens) st := by
  have rv := vals_ints hin
  have main : ∀ H : Hp, Only H → SqL K H a (ns.map V.int) → HOk P w H st.heap → (∀ b, H b ≠ none → b = a) → (H a ≠ none → K.lookup a = none) →
      codeAny (model P w) callerA (.call (.ref fa) ⟨[.ref a], []⟩) (fun r s' => r = .ok (.ret (.bool true)) ∧ OldK st.heap s'.heap ∧ s'.os = st.os ∧ AllBare s'.gens) st := by
    intro H hO hS hok hA hKa
    have free : ∀ {b : Addr} {o : Obj} {es : Array DictEntry} {ep : Nat}, st.heap.get? b = some o → o.data = .dict es ep → H b = none := by
      intro b o es ep e d
      cases q : H b with
      | none => rfl
      | some u =>
        obtain rfl : b = a := hA b (by rw [q]; exact Option.some_ne_none u)
        rw [hob] at e
        cases e
        cases d
    have nsH : ∀ {b : Addr} {m : Str → Option Value}, st.heap.Ns b m → (hidT st.heap H).Ns b m := by
      rintro b m ⟨o, es, ep, e, d, rr⟩
      exact ⟨o, es, ep, hidT_get e (free e d), d, rr⟩
    have KH : K.In (hidT st.heap H) := by
      intro b o e
      refine hidT_get (KI b o e) ?_
      cases q : H b with
      | none => rfl
      | some u =>
        obtain rfl : b = a := hA b (by rw [q]; exact Option.some_ne_none u)
        rw [hKa (by rw [q]; exact Option.some_ne_none u)] at e
        cases e
    have hM : Mod K mg (hidT st.heap H) := by
      obtain ⟨mc, h1, h2⟩ := hNl
      exact ⟨KH, nsH hG, ⟨mb, nsH hB, hBb⟩, ⟨mc, nsH h1, h2⟩⟩
    have e0 : Env0 P w K mg (hidT st.heap H) callerA [] st H :=
      { frames := rfl, mod := hM, bs := fun b o e => of_hidT e, bsz := Nat.le_of_eq (hidT_size _ _), funs := trivial, frf := (by intro b hb; exact absurd hb (by simp [frs])), hok := hok, bare := .of_eq hgs }
    obtain ⟨fd, hF, hbd⟩ := F _ KH (nsH hG)
    refine codeAny_mono (hF.run callerA [] st H ⟨[.ref a], []⟩ [.ref a] [.ref a] _ _ rfl hr e0 (hbd st [.ref a] KI rfl) (.cons rfl .nil) (hsp H hO hS)) fun r s' h => ?_
    cases r with
    | error e => exact (hno H e s' h).elim
    | ok fl =>
      cases fl with
      | ret u =>
        obtain ⟨v, H', eos, br, un, hok', r', q⟩ := h
        obtain rfl : v = .bl true := q
        obtain rfl : u = Value.bool true := r'
        refine ⟨rfl, OldK.of_keep fun b o e => ?_, eos, br⟩
        cases q : H b with
        | none => exact un.keep b o e q (by simp [frs]) (by simp)
        | some u =>
          rcases hO b with z | ⟨ob, xs, z⟩
          · rw [q] at z
            cases z
          · have y2 := (hok' b _ (un.frzs b ob _ z)).1
            have y1 := (hok b _ z).1
            rw [e] at y1
            cases y1
            exact y2
      | _ => exact False.elim h
  cases hk : K.lookup a with
  | some o =>
    have e := KI a o hk
    rw [hob] at e
    cases e
    refine main (fun _ => none) (fun _ => .inl rfl) (.inr ⟨_, vs.toArray, _, hk, rfl, rfl, rfl, ?_, by simpa using rv⟩) ?_ (fun b z => absurd rfl z) fun z => absurd rfl z
    · rw [List.size_toArray, hin.length]
      exact hsz
    · intro b u z
      exact nomatch (show (none : Option HO) = some u from z)
  | none =>
    let o1 : Obj := { cls := .type "list", data := .seq vs.toArray }
    refine main (fun b => if b = a then some (.frz o1 (.lst (ns.map V.int))) else none) (fun b => ?_) (.inl (.inr ⟨o1, if_pos rfl⟩)) (fun b u z => ?_) (fun b z => ?_) fun _ => hk
    · by_cases hb : b = a
      · exact .inr ⟨_, _, if_pos hb⟩
      · exact .inl (if_neg hb)
    · by_cases hb : b = a
      · have y := (if_pos hb).symm.trans z
        cases y
        subst hb
        exact ⟨hob, by rw [List.length_map]; exact hsz, vs, _, rv, hob⟩
      · have y := (if_neg hb).symm.trans z
        cases y
    · by_cases hb : b = a
      · exact hb
      · exact absurd (if_neg hb) z
theorem walkO {l : PySem.W.OpenLaw} {n k : Nat} {q : Program} {loose : List Str} {XP : (Str → Option Value) → Heap → Prop} {YP : World → Heap → Prop} {d : DefRec} {CX : World → CXT} {x : Str}
    (hn : l.most = some n) (hn2 : n ≤ sizeLine) (hdf : d.params.defaults = []) (hr : Room k callerA)
    (F : ∀ (w : World) (mg : Str → Option Value) (fa : Addr) (h : Heap), YP w h → h.Ns mainGlobals mg → mg d.name = some (.ref fa) →
      ∃ (K : PySem.W.Frag) (sp : Sp), K.In h ∧
        (∀ (H : Hp) (a : Addr) (ns : List Int), ns.length ≤ n → Only H → SqL K H a (ns.map V.int) → sp [.ref a] H (fun v _ => v = .bl true) fun _ _ _ => False) ∧
        ∀ base : Heap, K.In base → base.Ns mainGlobals mg → ∃ fd, FnG l.prog w K mg base (CX w) k fa fd [x] sp ∧ Binds K fd [x] [])
    (hno : ∀ (w : World) (H : Hp) (s : Shared) (e : Value) (s' : Shared), CX w [] H s (fun _ _ _ => False) e s' → False) :
    PySem.W.WalkO q loose XP YP l.row.toRowW d [] (fun f vs => PySem.call f vs) := by
  refine Att.attach_call hn hdf fun w _ st mg mb fa o pm cd doc a vs ns G Y _ _ _ hmg hob hin hlen hgs => ?_
  obtain ⟨K, sp, KI, hsp, hF⟩ := F w mg fa _ Y G.T.g hmg
  exact lawO KI G.T.g G.T.b G.T.builtins G.T.nolimit hgs hob hin (Nat.le_trans hlen hn2) hr hF (fun H hO hS => hsp H a ns hlen hO hS) fun H e s' => hno w H st e s'
end AT

set_option maxHeartbeats 4000000
namespace AT
open PySem PySem.Spec PyProof.Rows L2
/-! ### operators by an own class's method -/
def tyNames : List String := ["NoneType", "bool", "int", "str", "list", "tuple", "dict"]
/-- C answers the operator nm by its def f -/
structure OpC (K : PySem.W.Frag) (C f : Addr) (nm : String) : Prop where
  first : PySem.W.selfFirst K C = true
  find : PySem.W.findIn K (.ref C) (PySem.dunder nm) = some (some (.ref f))
  fn : PySem.W.isFn K (.ref f) = true
  back : PySem.W.findIn K (.ref C) (PySem.dunderR nm) = some none
  ty : ∀ T ∈ tyNames, ∃ fo ro, PySem.W.findIn K (.type T) (PySem.dunder nm) = some fo ∧ PySem.W.findIn K (.type T) (PySem.dunderR nm) = some ro ∧ PySem.W.subIn K (.type T) (.ref C) = some false
def opcB (x m : Str) (nm : String) (K : PySem.W.Frag) : Bool :=
  PySem.W.selfFirst K (He.ga K x) && (He.eqO (PySem.W.findIn K (.ref (He.ga K x)) (PySem.dunder nm)) (some (some (.ref (He.ma K (He.ga K x) m)))) && (PySem.W.isFn K (.ref (He.ma K (He.ga K x) m)) && (He.eqO (PySem.W.findIn K (.ref (He.ga K x)) (PySem.dunderR nm)) (some none) &&
    tyNames.all fun T => (PySem.W.findIn K (.type T) (PySem.dunder nm)).isSome && ((PySem.W.findIn K (.type T) (PySem.dunderR nm)).isSome && decide (PySem.W.subIn K (.type T) (.ref (He.ga K x)) = some false)))))
theorem opc_ok {x m : Str} {nm : String} {K : PySem.W.Frag} (h : opcB x m nm K = true) : OpC K (He.ga K x) (He.ma K (He.ga K x) m) nm := by
  unfold opcB at h
  simp only [Bool.and_eq_true, List.all_eq_true] at h
  obtain ⟨h1, h2, h3, h4, h5⟩ := h
  refine ⟨h1, He.eqO_ok h2, h3, He.eqO_ok h4, fun T hT => ?_⟩
  obtain ⟨a, b, c⟩ := h5 T hT
  obtain ⟨fo, ea⟩ := Option.isSome_iff_exists.mp a
  obtain ⟨ro, eb⟩ := Option.isSome_iff_exists.mp b
  exact ⟨fo, ro, ea, eb, of_decide_eq_true c⟩
/-- the other operand of a built-in type -/
theorem bin_ty {prog : Program} {w : World} {A : Around} {E : Value → Shared → Prop} {t : Shared} {K : PySem.W.Frag} {p C f : Addr} {oo : Obj} {od : Option Obj} {op : Operator} {u : Value} {T : String} {R : Value → Shared → Prop}
    (KI : K.In t.heap) (J : PySem.W.InstAt t.heap p oo C od) (hu : PySem.W.Looks (model prog w) t.heap (typeOf u) (.type T)) (O : OpC K C f op.info.2) (hT : T ∈ tyNames)
    (go : wpAny (model prog w) A (call (.ref f) [.ref p, u]) (PySem.W.CmpBack R) E t) : wpAny (model prog w) A (binaryOp op (.ref p) u) R E t := by
  obtain ⟨fo, ro, e1, e2, e3⟩ := O.ty T hT
  obtain ⟨cd, rest, ec, em⟩ := PySem.W.ksp_first O.first
  have first := O.find
  have back := O.back
  have fnn := O.fn
  rcases ei : op.info with ⟨sy, nm⟩
  rw [ei] at first back e1 e2
  dsimp only at first back e1 e2
  have turn := PySem.W.ksp_try KI J first fnn go
  obtain ⟨g0, g1, g2, g3, g4⟩ := t
  have k1 : PySem.W.Looks (model prog w) g0 (typeOf (.ref p)) (.ref C) := J.type
  have k2 : PySem.W.Looks (model prog w) g0 (typeOf u) (.type T) := hu
  have k3 : PySem.W.Looks (model prog w) g0 (fillsNumberSlot (.ref C) nm) true := PySem.W.fills_K KI ec em first
  have k4 : PySem.W.Looks (model prog w) g0 (fillsNumberSlot (.type T) nm) ((fo.isSome && !isSeqSlot fo) || (ro.isSome && !isSeqSlot ro)) := PySem.W.ksp_fillsT KI e1 e2
  have k5 : PySem.W.Looks (model prog w) g0 (isSubtype (.type T) (.ref C)) false := PySem.W.looks_subIn KI e3
  have k6 : PySem.W.Looks (model prog w) g0 (numberSlotInPython (.ref C) nm) true := PySem.W.ksp_inPy KI first back (.inl rfl)
  have k7 : PySem.W.Looks (model prog w) g0 (numberSlotInPython (.type T) nm) false := PySem.W.Looks.of_pure rfl
  have k8 : PySem.W.Looks (model prog w) g0 (typeLookup (.type T) (dunderR nm)) ro := PySem.W.looks_findIn KI e2
  generalize ((fo.isSome && !isSeqSlot fo) || (ro.isSome && !isSeqSlot ro)) = rr at k4
  have ne : (Value.ref C == Value.type T) = false := Bool.eq_false_iff.mpr fun z => by cases beq_iff_eq.mp z
  simp only [binaryOp, ei]
  refine wpAny_holding (wpAny_bind ?_)
  unfold binaryOp1
  refine wpAny_bind (k1.at (wpAny_bind (k2.at (wpAny_bind (k3.at ?_)))))
  simp only [ne, Bool.false_eq_true, if_false]
  cases rr
  all_goals
    ksp_lk
    refine wpAny_mono turn (fun r t' z => ?_) fun _ _ z => z
    obtain ⟨v, rfl, z⟩ := z
    ksp_lk
    exact z
/-- x op y by the def of x's class -/
def rOwn (K : PySem.W.Frag) (C : Addr) (sp : Sp) (E : XK) : R2 := fun x y H Q => ∃ p d fs t, x = .ref p ∧ H p = some (.ins C d fs) ∧ TyX K H y t ∧ (t = .ref C ∨ ∃ T, t = .type T ∧ T ∈ tyNames) ∧ sp [.ref p, y] H Q E
theorem ep_back {X : Cx} {pins : List (Addr × Obj)} {σ : L2.St} {Q : VK} {v : Value} {s : Shared} (h : EP X pins σ Q v s) : PySem.W.CmpBack (EP X pins σ Q) v s := by
  obtain ⟨x, H, I, r, q⟩ := id h
  cases v with
  | notImplemented =>
    cases x <;> first | exact nomatch r | (obtain ⟨_, z⟩ := r; exact nomatch z)
  | _ => exact h
section
variable {X : Cx} {C f : Addr} {k : Nat} {ps : List Str} {sp : Sp} {E : XK}
theorem op_own {op : Operator} (O : OpC X.K C f op.info.2) (F : Ok X.prog X.w X.K X.mg X.base k f ps sp) (hr : Room k X.A) (hx : Passes (L2.CX X.prog X.w) X E) : OpR X (binaryOp op) (rOwn X.K C sp E) := by
  intro pins s σ H x y v u Q I rx ry h
  obtain ⟨p, d, fs, t, rfl, hp, ty, ht, hsp⟩ := h
  obtain ⟨fd, F1, b, kp⟩ := F
  cases rx
  obtain ⟨mA, J, _⟩ := ins_get I.hok hp
  obtain ⟨od, J, _⟩ := J.look
  obtain ⟨P, kx, hP, _⟩ := kit_of I ry ty
  have look : PySem.W.Looks (model X.prog X.w) s.heap (typeOf u) t := kx.ty _ _ I.kIn hP
  have run : wpAny (model X.prog X.w) X.A (call (.ref f) [.ref p, u]) (PySem.W.CmpBack (EP X pins σ Q)) X.xe s :=
    wpAny_mono (run_fn (us := [.ref p, u]) (vs := [.ref p, y]) (ds := []) (dvs := []) F1 hr b .nil hx I (.cons rfl (.cons ry .nil)) hsp) (fun _ _ z => ep_back z) fun _ _ z => z
  rcases ht with rfl | ⟨T, rfl, hT⟩
  · obtain ⟨m, hF⟩ := I.fr
    exact PySem.W.binop_K hF I.ok.mod.kin J look O.first O.find O.fn run
  · exact bin_ty I.kIn J look O hT run
/-- -x by the def of x's class -/
def rOwn1 (C : Addr) (sp : Sp) (E : XK) : V → Hp → VK → Prop := fun x H Q => ∃ p d fs, x = .ref p ∧ H p = some (.ins C d fs) ∧ sp [.ref p] H Q E
theorem un_own (hs : PySem.W.findIn X.K (.ref C) "__neg__" = some (some (.ref f))) (hf : PySem.W.isFn X.K (.ref f) = true) (F : Ok X.prog X.w X.K X.mg X.base k f ps sp) (hr : Room k X.A) (hx : Passes (L2.CX X.prog X.w) X E) : UnR X (unaryOp .USub) (rOwn1 C sp E) := by
  intro pins s σ H x v Q I rx h
  obtain ⟨p, d, fs, rfl, hp, hsp⟩ := h
  obtain ⟨fd, F1, b, kp⟩ := F
  cases rx
  obtain ⟨mA, J, _⟩ := ins_get I.hok hp
  obtain ⟨od, J, _⟩ := J.look
  obtain ⟨m, hF⟩ := I.fr
  exact PySem.W.ksp_neg hF I.ok.mod.kin J hs hf (run_fn (us := [.ref p]) (vs := [.ref p]) (ds := []) (dvs := []) F1 hr b .nil hx I (.cons rfl .nil) hsp)
end
end AT

set_option maxHeartbeats 4000000
namespace AT
open PySem PySem.Spec PyProof.Rows L2
/-! ### == and != by an own class's __eq__ -/
structure EqC (K : PySem.W.Frag) (C f : Addr) : Prop where
  find : PySem.W.findIn K (.ref C) "__eq__" = some (some (.ref f))
  fn : PySem.W.isFn K (.ref f) = true
  sub : ∀ T ∈ tyNames, PySem.W.subIn K (.type T) (.ref C) = some false
  ne : PySem.W.findIn K (.ref C) "__ne__" = some (some (.builtin "object.__ne__"))
  obj : PySem.W.mroIn K C (.type "object") = some true
def eqcB (x : Str) (K : PySem.W.Frag) : Bool :=
  He.eqO (PySem.W.findIn K (.ref (He.ga K x)) "__eq__") (some (some (.ref (He.ma K (He.ga K x) "__eq__")))) && (PySem.W.isFn K (.ref (He.ma K (He.ga K x) "__eq__")) && ((tyNames.all fun T => decide (PySem.W.subIn K (.type T) (.ref (He.ga K x)) = some false)) &&
    (He.eqO (PySem.W.findIn K (.ref (He.ga K x)) "__ne__") (some (some (.builtin "object.__ne__"))) && decide (PySem.W.mroIn K (He.ga K x) (.type "object") = some true))))
theorem eqc_ok {x : Str} {K : PySem.W.Frag} (h : eqcB x K = true) : EqC K (He.ga K x) (He.ma K (He.ga K x) "__eq__") := by
  unfold eqcB at h
  simp only [Bool.and_eq_true, List.all_eq_true] at h
  obtain ⟨h1, h2, h3, h4, h5⟩ := h
  exact ⟨He.eqO_ok h1, h2, fun T hT => of_decide_eq_true (h3 T hT), He.eqO_ok h4, of_decide_eq_true h5⟩
section
variable {X : Cx} {C f : Addr} {k : Nat} {ps : List Str} {sp : Sp} {E : XK}
/-- the callee runs a little deeper in C -/
theorem run_in {A : Around} {fd : FuncData} {pins : List (Addr × Obj)} {σ : L2.St} {H : Hp} {s : Shared} {Q : VK} {us : List Value} {vs : List V} (hA : A.frames = X.A.frames) (F : FnOk X.prog X.w X.K X.mg X.base (L2.CX X.prog X.w) k f fd ps sp) (hr : Room k A) (hb : Binds X.K fd ps [])
    (hx : Passes (L2.CX X.prog X.w) X E) (I : Inv X pins σ H s) (r : Vals vs us) (h : sp vs H Q E) : wpAny (model X.prog X.w) A (call (.ref f) us) (EP X pins σ Q) X.xe s := by
  have hl : us.length = ps.length := by rw [← r.length]; exact F.len _ _ _ _ h
  have e := I.env0
  have e0 : Env0 X.prog X.w X.K X.mg X.base A X.stack s H := ⟨by rw [hA]; exact e.frames, e.mod, e.bs, e.bsz, e.funs, e.frf, e.hok, e.bare⟩
  have b := hb s us I.kIn (by simpa using hl)
  rw [List.append_nil] at b
  refine wpAny_call (codeAny_mono (F.run A X.stack s H ⟨us, []⟩ us vs Q E hr e0 b r h) fun res s' hq => ?_)
  cases res with
  | error er => exact hx pins σ H s er s' I hq
  | ok fl =>
    cases fl with
    | ret u => exact I.after hq
    | _ => exact False.elim hq
def OfTy (K : PySem.W.Frag) (H : Hp) (C : Addr) (y : V) : Prop := ∃ t, TyX K H y t ∧ (t = .ref C ∨ ∃ T, t = .type T ∧ T ∈ tyNames)
def rEqO (K : PySem.W.Frag) (C : Addr) (sp : Sp) (E : XK) : R2 := fun x y H Q => ∃ p d fs, x = .ref p ∧ H p = some (.ins C d fs) ∧ OfTy K H C y ∧ sp [.ref p, y] H Q E
def rNeO (K : PySem.W.Frag) (C : Addr) (sp : Sp) (E : XK) : R2 := fun x y H Q => ∃ p d fs, x = .ref p ∧ H p = some (.ins C d fs) ∧ OfTy K H C y ∧ sp [.ref p, y] H (fun v H' => ∃ b, v = .bl b ∧ Q (.bl !b) H') E
theorem not_first {K : PySem.W.Frag} {t : Value} (O : EqC K C f) (h : t = .ref C ∨ ∃ T, t = .type T ∧ T ∈ tyNames) : PySem.W.notFirst K C t = true := by
  unfold PySem.W.notFirst
  rcases h with rfl | ⟨T, rfl, hT⟩
  · simp
  · rw [O.sub T hT]
    simp
theorem op_eqO (O : EqC X.K C f) (F : Ok X.prog X.w X.K X.mg X.base k f ps sp) (hr : Room k X.A) (hx : Passes (L2.CX X.prog X.w) X E) : OpR X (compareOp .Eq) (rEqO X.K C sp E) := by
  intro pins s σ H x y v u Q I rx ry h
  obtain ⟨p, d, fs, rfl, hp, ⟨t, ty, ht⟩, hsp⟩ := h
  obtain ⟨fd, F1, b, kp⟩ := F
  cases rx
  obtain ⟨mA, J, _⟩ := ins_get I.hok hp
  obtain ⟨od, J, _⟩ := J.look
  obtain ⟨P, kx, hP, _⟩ := kit_of I ry ty
  obtain ⟨m, hF⟩ := I.fr
  exact PySem.W.cmp_K (op := .Eq) hr.units0 hF I.ok.mod.kin J (kx.ty _ _ I.kIn hP) (not_first O ht) O.find O.fn
    (wpAny_mono (run_in (us := [.ref p, u]) (vs := [.ref p, y]) rfl F1 hr b hx I (.cons rfl (.cons ry .nil)) hsp) (fun _ _ z => ep_back z) fun _ _ z => z)
/-- object.__ne__ of an instance asks its class's __eq__ -/
theorem ne_body {prog : Program} {w : World} {A : Around} {E1 : Value → Shared → Prop} {t : Shared} {K : PySem.W.Frag} {p C f : Addr} {oo : Obj} {od : Option Obj} {u : Value} {R : Fin → Shared → Prop} (KI : K.In t.heap) (J : PySem.W.InstAt t.heap p oo C od) (O : EqC K C f) (hu : A.units < cLine)
    (go : wpAny (model prog w) A (call (.ref f) [.ref p, u]) (fun v t' => ∃ b, v = .bool b ∧ R (.done (.ret (.bool (!b)))) t') E1 t) : wpAny (model prog w) A (Builtin.«object.__ne__» ⟨[.ref p, u], []⟩) R E1 t := by
  unfold Builtin.«object.__ne__»
  show wpAny _ _ (cRoomFor "comparison" [.ref p, u] >>= _) _ _ _
  refine wpAny_bind (wpAny_cRoomFor hu ?_)
  refine wpAny_bind (m := callSpecialIfBound? (.ref p) (Str.ofString "__eq__") [u]) (PySem.W.ifBound_K KI J O.find O.fn (wpAny_mono go (fun v t' z => ?_) fun _ _ z => z))
  obtain ⟨b, rfl, z⟩ := z
  exact wpAny_bind (wpAny_truthy_bool (wpAny_pure z))
theorem ne_bound {M : Model} {A : Around} {E1 : Value → Shared → Prop} {t : Shared} {K : PySem.W.Frag} {p C : Addr} {oo : Obj} {od : Option Obj} {us : List Value} {R : Option Value → Shared → Prop} (KI : K.In t.heap) (J : PySem.W.InstAt t.heap p oo C od)
    (hs : PySem.W.findIn K (.ref C) "__ne__" = some (some (.builtin "object.__ne__"))) (go : wpAny M A (call (.builtin "object.__ne__") (.ref p :: us)) (fun v => R (some v)) E1 t) : wpAny M A (callSpecialIfBound? (.ref p) "__ne__" us) R E1 t := by
  simp only [callSpecialIfBound?, bindSpecialIfBound?]
  refine wpAny_holding (wpAny_bind (wpAny_bind (wpAny_bind (J.type.here ((PySem.W.looks_findIn KI hs).here ?_)))))
  refine wpAny_bind (wpAny_askSetting (wpAny_ite ?_))
  have last : wpAny M A (call (.builtin "object.__ne__") ([.ref p] ++ us) >>= fun v => pure (some v)) R E1 t := wpAny_bind (wpAny_mono go (fun v t' z => wpAny_pure z) fun _ _ z => z)
  split
  · exact wpAny_bind (wpAny_of_eq (F.cmp_object.ne.bind _) (wpAny_pure (by exact last)))
  · exact wpAny_tryCatch (wpAny_bind (wpAny_of_eq (F.cmp_object.ne.bind _) (wpAny_pure (by exact last))))
theorem ne_own {prog : Program} {w : World} {A : Around} {E1 : Value → Shared → Prop} {t : Shared} {K : PySem.W.Frag} {p C f : Addr} {oo : Obj} {od : Option Obj} {u ty : Value} {R : Value → Shared → Prop} (KI : K.In t.heap) (J : PySem.W.InstAt t.heap p oo C od) (O : EqC K C f) (hu : A.units + 1 < cLine)
    (hty : PySem.W.Looks (model prog w) t.heap (typeOf u) ty) (hn : PySem.W.notFirst K C ty = true)
    (go : wpAny (model prog w) A.in1 (call (.ref f) [.ref p, u]) (fun v t' => ∃ b, v = .bool b ∧ R (.bool (!b)) t') E1 t) : wpAny (model prog w) A (compareOp .NotEq (.ref p) u) R E1 t := by
  have turn : wpAny (model prog w) A (tryCompare (.ref p) "__ne__" u) (fun r t' => ∃ v, r = some v ∧ R v t') E1 t := by
    unfold tryCompare
    refine wpAny_bind (ne_bound KI J O.ne (wpAny_call (codeAny_call_builtin F.cmp_object.ne.plain F.cmpEntry_ne (PySem.W.check_slot F.cmpKind_ne F.cmpSplit_ne (J.type.andThen (PySem.W.looks_mroIn KI O.obj)) (F.cmpArgs_ne _ _)
      (ne_body (A := A.in1) KI J O hu (wpAny_mono go (fun v t' z => ?_) fun _ _ z => z))))))
    obtain ⟨b, rfl, z⟩ := z
    exact ⟨b, rfl, wpAny_pure ⟨_, rfl, z⟩⟩
  show wpAny _ _ (richCompare .NotEq _ _) _ _ _
  simp only [richCompare, cmpInfo_NotEq, oneThing_ref]
  refine wpAny_holding (wpAny_bind (wpAny_cRoomFor (Nat.lt_of_succ_lt hu) ?_))
  refine wpAny_bind (J.type.here (wpAny_bind (hty.here ?_)))
  split
  · rename_i z
    have e : PySem.W.subIn K ty (.ref C) = some false := by
      rcases Bool.or_eq_true_iff.mp hn with e | e
      · rw [beq_iff_eq.mp e] at z
        simp at z
      · exact beq_iff_eq.mp e
    refine wpAny_bind ((PySem.W.looks_subIn KI e).here ?_)
    simp only [Bool.false_eq_true, if_false]
    refine wpAny_bind (wpAny_mono turn (fun r t' y => ?_) fun _ _ y => y)
    obtain ⟨v, rfl, y⟩ := y
    exact wpAny_pure y
  · refine wpAny_bind (wpAny_pure ?_)
    simp only [Bool.false_eq_true, if_false]
    refine wpAny_bind (wpAny_mono turn (fun r t' y => ?_) fun _ _ y => y)
    obtain ⟨v, rfl, y⟩ := y
    exact wpAny_pure y
theorem op_neO (O : EqC X.K C f) (F : Ok X.prog X.w X.K X.mg X.base k f ps sp) (hr : Room (k + 1) X.A) (hx : Passes (L2.CX X.prog X.w) X E) : OpR X (compareOp .NotEq) (rNeO X.K C sp E) := by
  intro pins s σ H x y v u Q I rx ry h
  obtain ⟨p, d, fs, rfl, hp, ⟨t, ty, ht⟩, hsp⟩ := h
  obtain ⟨fd, F1, b, kp⟩ := F
  cases rx
  obtain ⟨mA, J, _⟩ := ins_get I.hok hp
  obtain ⟨od, J, _⟩ := J.look
  obtain ⟨P, kx, hP, _⟩ := kit_of I ry ty
  refine ne_own I.kIn J O (by have := hr.un; omega) (kx.ty _ _ I.kIn hP) (not_first O ht) (wpAny_mono (run_in (A := X.A.in1) (us := [.ref p, u]) (vs := [.ref p, y]) rfl F1 hr.in1 b hx I (.cons rfl (.cons ry .nil)) hsp) (fun v s' z => ?_) fun _ _ z => z)
  obtain ⟨xv, H', I', rz, bb, rfl, q⟩ := z
  cases rz
  exact ⟨bb, rfl, .bl _, H', I', rfl, q⟩
end
end AT

set_option maxHeartbeats 4000000
namespace AT
open PySem PySem.Spec PyProof.Rows L2
section
variable {X : Cx} {k : Nat} {f C : Addr} {ps : List Str} {sp : Sp} {dvs : List V} {E : XK} {x m : Str} {p pos apos : Pos} {e o : Expr} {es : List Expr} {ta : TE} {t : TA}
/-- o.m(..) -/
theorem ok_meth {pl : Sem Bool} (c : Cls X.K C) (hm : Meth X.K C m f) (F : Ok X.prog X.w X.K X.mg X.base k f ps sp) (hr : Room k X.A) (hx : Passes (L2.CX X.prog X.w) X E) (he : PE X o ta) (ha : PA X (e :: es) t)
    (hst : starEach (e :: es) X.env = (false, eval e X.env) :: starEach es X.env := by rfl) (hpl : (backTo pos (starEach es X.env)).any (·.1) = false := by rfl)
    (ht : eval (.Call (.Attribute o m apos) (e :: es) [] pos) X.env = (do
      let w0 ← eval o X.env
      standAt apos.atName
      let (g0, us0) ← holding [w0] (getMethod w0 m pl)
      callWith pos g0 us0 (backTo pos (starEach (e :: es) X.env)) (backToKw pos (keywordEach [] X.env))) := by rfl) :
    PE X (.Call (.Attribute o m apos) (e :: es) [] pos) (tMeth C m sp [] E ta t) := by
  obtain ⟨fd, F1, b, kp⟩ := F
  exact pe_meth he c hm F1 hr b .nil hx ha hst hpl ht
theorem ok_meth0 {pl : Sem Bool} (c : Cls X.K C) (hm : Meth X.K C m f) (F : Ok X.prog X.w X.K X.mg X.base k f ps sp) (hr : Room k X.A) (hx : Passes (L2.CX X.prog X.w) X E) (he : PE X o ta)
    (ht : eval (.Call (.Attribute o m apos) [] [] pos) X.env = (do
      let w0 ← eval o X.env
      standAt apos.atName
      let (g0, us0) ← holding [w0] (getMethod w0 m pl)
      callWith pos g0 us0 (backTo pos (starEach [] X.env)) (backToKw pos (keywordEach [] X.env))) := by rfl) :
    PE X (.Call (.Attribute o m apos) [] [] pos) (tMeth C m sp [] E ta tNil) := by
  obtain ⟨fd, F1, b, kp⟩ := F
  exact pe_meth0 he c hm F1 hr b .nil hx ht
end
/-! ### lists of the very same objects and of flat values -/
def EqPair (x y : V) (b : Bool) : Prop := (∃ a, x = .ref a ∧ y = .ref a ∧ b = true) ∨ (flatV x = true ∧ flatV y = true ∧ b = eqV x y)
theorem EqPair.at {A : Around} {s : Shared} {x y : V} {u v : Value} {b : Bool} (h : EqPair x y b) (rx : RelV x u) (ry : RelV y v) : SeqAt.EqAt A s u v b := by
  rcases h with ⟨a, rfl, rfl, rfl⟩ | ⟨h1, h2, rfl⟩
  · cases rx
    cases ry
    exact SeqAt.EqAt.same _
  · exact eqAt_V rx ry h1 h2
def AlikeL (K : PySem.W.Frag) (x y : V) (H : Hp) (e : Nat → Bool) (n : Nat) : Prop := ∃ a b xs ys, x = .ref a ∧ y = .ref b ∧ SqL K H a xs ∧ SqL K H b ys ∧ xs.length = n ∧ ys.length = n ∧ ∀ i x y, xs[i]? = some x → ys[i]? = some y → EqPair x y (e i)
def rEqI (K : PySem.W.Frag) : R2 := fun x y H Q => ∃ e n, AlikeL K x y H e n ∧ Q (.bl ((List.range n).all e)) H
def rNeI (K : PySem.W.Frag) : R2 := fun x y H Q => ∃ e n, AlikeL K x y H e n ∧ Q (.bl (!(List.range n).all e)) H
section
variable {X : Cx}
theorem alike_lists {pins : List (Addr × Obj)} {σ : L2.St} {H : Hp} {s : Shared} {x y : V} {u v : Value} {e : Nat → Bool} {n : Nat} (I : Inv X pins σ H s) (rx : RelV x u) (ry : RelV y v) (h : AlikeL X.K x y H e n) :
    ∃ (a b : Addr) (is js : Array Value), u = .ref a ∧ v = .ref b ∧ s.heap.IsList a is ∧ s.heap.IsList b js ∧ is.size = n ∧ js.size = n ∧ ∀ (A : Around) j (h1 : j < is.size) (h2 : j < js.size), SeqAt.EqAt A s is[j] js[j] (e j) := by
  obtain ⟨a, b, xs, ys, rfl, rfl, ha, hb, la, lb, hp⟩ := h
  cases rx
  cases ry
  obtain ⟨its, rv, pl, _⟩ := I.list ha
  obtain ⟨jts, rw, ql, _⟩ := I.list hb
  refine ⟨a, b, its.toArray, jts.toArray, rfl, rfl, pl.isList, ql.isList, ?_, ?_, fun A j h1 h2 => ?_⟩
  · rw [List.size_toArray, ← rv.length]; exact la
  · rw [List.size_toArray, ← rw.length]; exact lb
  · rw [List.size_toArray] at h1 h2
    have g1 : j < xs.length := by rw [rv.length]; exact h1
    have g2 : j < ys.length := by rw [rw.length]; exact h2
    obtain ⟨u1, e1, r1⟩ := rv.get (List.getElem?_eq_getElem g1)
    obtain ⟨u2, e2, r2⟩ := rw.get (List.getElem?_eq_getElem g2)
    rw [List.getElem?_eq_getElem h1] at e1
    rw [List.getElem?_eq_getElem h2] at e2
    cases e1
    cases e2
    exact (hp j _ _ (List.getElem?_eq_getElem g1) (List.getElem?_eq_getElem g2)).at r1 r2
theorem op_eqI (hu : X.A.units + 64 < cLine) : OpR X (compareOp .Eq) (rEqI X.K) := by
  intro pins s σ H x y v u Q I rx ry h
  obtain ⟨e, n, al, q⟩ := h
  obtain ⟨a, b, is, js, rfl, rfl, l1, l2, n1, n2, el⟩ := alike_lists I rx ry al
  refine (SeqAt.RcAt.lists (e := e) l1 l2 (by rw [n1, n2]) (by omega) (el _)) X.prog X.w X.xe _ ?_
  rw [n1]
  exact ⟨.bl _, H, I, rfl, q⟩
theorem op_neI (hu : X.A.units + 64 < cLine) : OpR X (compareOp .NotEq) (rNeI X.K) := by
  intro pins s σ H x y v u Q I rx ry h
  obtain ⟨e, n, al, q⟩ := h
  obtain ⟨a, b, is, js, rfl, rfl, l1, l2, n1, n2, el⟩ := alike_lists I rx ry al
  refine (SeqAt.RcNeAt.lists (e := e) l1 l2 (by rw [n1, n2]) (by omega) (el _)) X.prog X.w X.xe _ ?_
  rw [n1]
  exact ⟨.bl _, H, I, rfl, q⟩
end
/-- what is never reached -/
theorem pe_never {X : Cx} {e : Expr} : PE X e (fun _ _ _ => False) := ⟨fun _ _ _ _ _ _ z => z.elim⟩
/-! ### defaults that are objects -/
def dflA (loc : PySem.W.Frag → Addr) (i : Nat) (K : PySem.W.Frag) : Addr := match K.lookup (loc K) with
  | some ⟨_, _, .func u, _⟩ => (match u.defaults with
    | .ref T => (match K.lookup T with
      | some ⟨_, _, .seq its _, _⟩ => (match its[i]? with
        | some (.ref a) => a
        | _ => 0)
      | _ => 0)
    | _ => 0)
  | _ => 0
def tup0B (a : PySem.W.Frag → Addr) (K : PySem.W.Frag) : Bool := match K.lookup (a K) with
  | some ⟨.type "tuple", _, .seq its _, _⟩ => its.isEmpty
  | _ => false
theorem tup0_ok {a : PySem.W.Frag → Addr} {K : PySem.W.Frag} (h : tup0B a K = true) (H : Hp) : SqT K H (a K) [] := by
  unfold tup0B at h
  split at h
  · rename_i d its n sl e
    have z : its = #[] := by simpa using h
    subst z
    exact .inr ⟨_, _, _, e, rfl, rfl, Nat.zero_le _, .nil⟩
  · cases h
end AT

set_option maxHeartbeats 4000000
namespace AT
open PySem PySem.Spec PyProof.Rows L2
open AutoSeq1 (wpAny_loadPart')
/-! ### enumerate of a tuple -/
abbrev tupIt (t : Addr) : Obj := { cls := .type "tuple_iterator", data := .fields #[.ref t, .int 0 0] }
abbrev enumOf (it : Addr) : Obj := { cls := .type "enumerate", data := .fields #[.none, .bool false, .ref it, rawInt 0, .none, .none] }
theorem new_enum (t : Addr) (its : Array Value) (n : Nat) (dd : Option Addr) (sl : Array (Option Value)) :
    Meets (Builtin.«enumerate.__new__» ⟨[.type "enumerate", .ref t], []⟩) (fun _ R s => s.heap.get? t = some ⟨.type "tuple", dd, .seq its n, sl⟩ ∧ R (.ok (.ret (.ref (s.heap.push (tupIt t)).objs.size))) { s with heap := (s.heap.push (tupIt t)).push (enumOf s.heap.objs.size) }) :=
  .of_wp fun prog w A R s h => by
    obtain ⟨g0, g1, g2, g3, g4⟩ := s
    obtain ⟨ht, h⟩ := h
    have sube := sub_enumerate
    have tt : Heap.IsTuple (Shared.heap ⟨g0, g1, g2, g3, g4⟩) t its := ⟨_, ht, rfl, n, rfl⟩
    wp_walk using wpAny_loadPart' ht
    refine wpAny_stack_any fun st => wpAny_pure ?_
    split
    · rename_i c _ _ _ _ _
      cases (c == Value.type "enumerate")
      all_goals
        wp_walk using wpAny_loadPart' ht, wpAny_pyIter_tuple tt
        exact ⟨_, rfl, h⟩
    · wp_walk using wpAny_loadPart' ht, wpAny_pyIter_tuple tt
      exact ⟨_, rfl, h⟩
section
variable {prog : Program} {w : World} {A : Around} {E : Value → Shared → Prop} {s : Shared}
theorem call_enum {t : Addr} {its : Array Value} {Q : Value → Shared → Prop} (ht : s.heap.IsTuple t its)
    (go : ∀ h', IsEnum h' (s.heap.objs.size + 1) s.heap.objs.size 0 .none → h'.IsTupleIter s.heap.objs.size t 0 → (∀ b o, s.heap.get? b = some o → h'.get? b = some o) → Q (.ref (s.heap.objs.size + 1)) { s with heap := h' }) :
    wpAny (model prog w) A (call (.type "enumerate") [.ref t]) Q E s := by
  obtain ⟨⟨c, dd, dt, sl⟩, e1, e2, n, e3⟩ := ht
  replace e2 : c = .type "tuple" := e2
  replace e3 : dt = .seq its n := e3
  subst e2 e3
  refine callType_new F.called_enumerate (by decide) (F.typeCall_enumerate_1 _) (F.newCall_enumerate_1 _) (fun obj => F.args_object_init_2 obj _) F.entry_enumerate_new (new_enum t its n dd sl) ⟨e1, ?_⟩
  have sz : (s.heap.push (tupIt t)).objs.size = s.heap.objs.size + 1 := Heap.size_push ..
  show _ ∧ _
  rw [sz]
  have en : IsEnum ((s.heap.push (tupIt t)).push (enumOf s.heap.objs.size)) (s.heap.objs.size + 1) s.heap.objs.size 0 .none := by
    have z := Heap.get?_push_size (s.heap.push (tupIt t)) (o := enumOf s.heap.objs.size) rfl
    rw [sz] at z
    exact z
  exact ⟨⟨_, en, rfl⟩, go _ en ⟨_, Heap.get?_push_of_some _ (Heap.get?_push_size _ rfl), rfl, rfl⟩ fun b o z => Heap.get?_push_of_some _ (Heap.get?_push_of_some _ z)⟩
end
/-- the tuple at a, each item in a new pair -/
def IteT (K : PySem.W.Frag) (a : Addr) : It where
  go i H := ∃ (xs : List V) (x : V), SqT K H a xs ∧ xs[i]? = some x
  yld i H v H' := ∃ T x, v = .ref T ∧ H T = none ∧ H' = upd H T (.tup [.int (i : Nat), x]) ∧ ∀ xs, SqT K H a xs → xs[i]? = some x
  stop i H := ∃ xs : List V, SqT K H a xs ∧ xs.length ≤ i
theorem tup_ne {X : Cx} {pins : List (Addr × Obj)} {σ : L2.St} {H : Hp} {s : Shared} {t it : Addr} {i : Nat} {its : Array Value} (h : s.heap.IsTupleIter it t i) (g : s.heap.IsTuple t its) : t ≠ it := by
  rintro rfl
  obtain ⟨o, e, c, _⟩ := h
  obtain ⟨o', e', c', _⟩ := g
  rw [e] at e'
  cases e'
  rw [c] at c'
  exact absurd (Value.type.inj c') (by decide)
theorem turn_enumT {P : Program} {w : World} {K : PySem.W.Frag} {elts : List Expr} {kk : Nat} {tpos : Pos} (a e it : Addr) :
    Turn P w K (.Tuple elts kk tpos) (IteT K a) [e, it] e (fun i h => (∃ old, IsEnum h e it ((i : Nat) : Int) old) ∧ h.IsTupleIter it a i ∧ e ≠ it ∧ e ≠ a) where
  mem := by simp
  obj := fun i h st b hb => by
    obtain ⟨⟨old, he⟩, ⟨o, ho, hc, hd⟩, _⟩ := st
    rcases (show b = e ∨ b = it by simpa using hb) with z | z
    · rw [z]; exact ⟨_, he, fun v q => nomatch q⟩
    · rw [z]; exact ⟨o, ho, fun v q => by rw [hd] at q; cases q⟩
  keep := fun i h h' st k => by
    obtain ⟨⟨old, he⟩, hi, n1, n2⟩ := st
    exact ⟨⟨old, k e (by simp) _ he⟩, hi.at fun o q => k it (by simp) o q, n1, n2⟩
  item := by
    intro X hP hw hK hc i pins s σ H E I hf st hg
    subst hP hw hK
    obtain ⟨⟨old, he⟩, hi, n1, n2⟩ := st
    obtain ⟨xs, x, hq, hx⟩ := hg
    obtain ⟨its, rv, p, hz⟩ := I.tuple hq
    obtain ⟨u, hu, ru⟩ := rv.get hx
    have le : e < s.heap.objs.size := Heap.lt_size he
    have li : it < s.heap.objs.size := by obtain ⟨_, q, _⟩ := hi; exact Heap.lt_size q
    have ne : a ≠ it := tup_ne (X := X) (pins := pins) (σ := σ) (H := H) hi p
    have lt : i < its.toArray.size := by
      rw [List.size_toArray]
      exact (List.getElem?_eq_some_iff.mp hu).1
    refine wpAny_pyNext_enum_itemD (Draws.tuple (A := X.A.in1) (I.ok.hd hc) it a ne its.toArray) he ⟨hi, p⟩ lt n1 (by simp [n1, n2]) fun v h' tk hv out st' hT hsz hk => ?_
    have ev : v = u := by
      have z : its.toArray[i]? = some v := hv
      rw [List.getElem?_toArray, hu] at z
      cases z
      rfl
    subst ev
    refine ⟨_, rfl, wpAny_letOwnedTupleGo_enum (s := { s with heap := h', toks := tk + 1 }) out fun h'' he' sb => ?_⟩
    have hT2 : h''.get? s.heap.objs.size = some { cls := .type "tuple", data := .seq #[.int i tk, v] } := (sb.2 _ (Nat.ne_of_gt le)).trans hT
    have new : ObjOk X.prog X.w (upd H s.heap.objs.size (.tup [.int (i : Nat), x])) h'' s.heap.objs.size (.tup [.int (i : Nat), x]) :=
      ⟨(by show 2 ≤ sizeLine; decide), [.int i tk, v], .cons ⟨_, rfl⟩ (.cons ru .nil), ⟨_, hT2, rfl, _, rfl⟩⟩
    have I1 : Inv X pins σ (upd H s.heap.objs.size (.tup [.int (i : Nat), x])) { s with heap := h'', toks := tk + 1 } :=
      I.turnedNew (ch := [e, it]) (fun b ob hb q => (sb.2 b (fun z => hb (by simp [z]))).trans (hk b ob (fun z => hb (by simp [z])) (fun z => hb (by simp [z])) q)) hf (Nat.le_refl _) new
    refine ⟨.ref s.heap.objs.size, _, I1, rfl, ⟨_, x, rfl, I.hok.fresh (Nat.le_refl _), rfl, fun ys hy => by rw [I.tuple_inj hy hq]; exact hx⟩, ⟨⟨v, ?_⟩, st'.1.at fun o q => (sb.2 it (Ne.symm n1)).trans q, n1, n2⟩, fun b hb => ?_⟩
    · rw [show ((i + 1 : Nat) : Int) = (i : Int) + 1 by omega]
      exact he'
    · have lb : b < s.heap.objs.size := by
        rcases (show b = e ∨ b = it by simpa using hb) with z | z
        · rw [z]; exact le
        · rw [z]; exact li
      rw [upd_ne (Nat.ne_of_lt lb)]
      exact (hf b hb).1
  done := by
    intro X hP hw hK hc i pins s σ H E I hf st hg
    subst hP hw hK
    obtain ⟨⟨old, he⟩, hi, n1, n2⟩ := st
    obtain ⟨xs, hq, hx⟩ := hg
    obtain ⟨its, rv, p, hz⟩ := I.tuple hq
    obtain ⟨f0, f1, f2, f3, f4, f5⟩ := hf it (by simp)
    have out : its.toArray[i]? = none := by
      rw [List.getElem?_toArray]
      exact List.getElem?_eq_none (by rw [← rv.length]; exact hx)
    have ty : s.TypeIs (.ref e) "enumerate" := ⟨_, he, rfl⟩
    unfold pyNext
    refine wpAny_bind (wpAny_attempt (wpAny_callSpecial?_slot (name := Str.ofString "__next__") ty F.slot_enumerate_next (wpAny_call_entry F.slot_enumerate_next ty F.entry_enumerate_next ?_ (F.args_enumerate_next_1 _))))
    show wpAny _ _ (field (.ref e) 2 >>= fun z => _) _ _ _
    refine wpAny_bind (wpAny_field he rfl (x := .ref it) rfl ?_)
    refine wpAny_bind (wpAny_nextOf_tuple_end (I.ok.hd hc) hi p out fun h' x e1 z => ?_)
    obtain ⟨o, e2, e3⟩ := z
    refine wpAny_bind (wpAny_isInstance (T := "StopIteration") (b := true) ⟨o, e2, e3⟩ isSubtype_stop ?_)
    exact wpAny_pure ⟨rfl, I.turned (t' := s.toks) (fun b o hb q => e1 b o hb q) f0 f1 f3 f4 f5⟩
  self := fun A i s Q E st h => let ⟨⟨_, he⟩, _⟩ := st; wpAny_pyIter_enum he h
/-- enumerate(x) of a list or a tuple -/
def EnOf (K : PySem.W.Frag) (H : Hp) (a : Addr) (xs : List V) (J : It) : Prop := (SqL K H a xs ∧ J = Ite K a) ∨ (SqT K H a xs ∧ J = IteT K a)
def iEnumA (K : PySem.W.Frag) (ta : TA) : TI := fun σ H R => ta σ H fun vs H1 => ∃ a xs, vs = [.ref a] ∧ (SqL K H1 a xs ∨ SqT K H1 a xs) ∧ ∀ J, EnOf K H1 a xs J → R J H1
theorem pi_enumA {X : Cx} {x : Expr} {ta : TA} {p pos tpos : Pos} {elts : List Expr} {kk : Nat} (hg : Gl X "enumerate") (hm : X.mg "enumerate" = none) (ha : PA X [x] ta) (hs : starEach [x] X.env = [(false, eval x X.env)] := by rfl) : PI X (.Tuple elts kk tpos) (.Call (.Name "enumerate" p) [x] [] pos) (iEnumA X.K ta) := by
  refine ⟨fun pins s σ H R I h => ?_⟩
  have fok : ∀ {s1 : Shared} {H1 : Hp}, Inv X pins σ H1 s1 → ∀ b ∈ [s1.heap.objs.size + 1, s1.heap.objs.size], FpOk X pins H1 b := fun {s1 H1} I1 b hb => by
    have le : s1.heap.objs.size ≤ b := by
      rcases (show b = s1.heap.objs.size + 1 ∨ b = s1.heap.objs.size by simpa using hb) with z | z
      · rw [z]; exact Nat.le_add_right _ _
      · rw [z]; exact Nat.le_refl _
    exact I1.fpOk le (I1.hok.fresh le)
  refine Call_ (ld_blt I hg hm boot_enumerate (PyProof.Rows.callWith_type1 (thn (ha.run pos pins s σ H _ I h) fun us s1 ⟨vs, H1, I1, r1, q1⟩ => ?_) hs rfl))
  obtain ⟨a, xs, rfl, q1⟩ := q1
  obtain ⟨u, rfl, ru⟩ := r1.one
  cases ru
  obtain ⟨hq | hq, q⟩ := q1
  · have q := q _ (.inl ⟨hq, rfl⟩)
    obtain ⟨its, rv, pl, _⟩ := I1.list hq
    refine call_enumerate_list pl.isList fun h' he hit _ hk => wpAny_pyIter_enum he ?_
    exact ⟨s1.heap.objs.size + 1, [s1.heap.objs.size + 1, s1.heap.objs.size], _, _, H1, rfl, I1.kept (t' := s1.toks) hk, turn_enum a (s1.heap.objs.size + 1) s1.heap.objs.size, ⟨⟨.none, he⟩, hit, Nat.succ_ne_self _⟩, fok I1, q⟩
  · have q := q _ (.inr ⟨hq, rfl⟩)
    obtain ⟨its, rv, pl, _⟩ := I1.tuple hq
    have la : a < s1.heap.objs.size := by obtain ⟨o, e, _⟩ := id pl; exact Heap.lt_size e
    refine call_enum pl fun h' he hit hk => wpAny_pyIter_enum he ?_
    exact ⟨s1.heap.objs.size + 1, [s1.heap.objs.size + 1, s1.heap.objs.size], _, _, H1, rfl, I1.kept (t' := s1.toks) hk, turn_enumT a (s1.heap.objs.size + 1) s1.heap.objs.size, ⟨⟨.none, he⟩, hit, Nat.succ_ne_self _, Nat.ne_of_gt (Nat.lt_succ_of_lt la)⟩, fok I1, q⟩
theorem walk_enumT {K : PySem.W.Frag} {a : Addr} {xs : List V} : Walk (IteT K a) xs.length (fun H => SqT K H a xs) (YPair (fun i => some (.int (i : Nat))) (fun i => xs[i]?)) := by
  refine ⟨fun i H hi h => ⟨xs, xs[i], h, List.getElem?_eq_getElem hi⟩, fun H h => ⟨xs, h, Nat.le_refl _⟩, fun i H x H' hi h y => ?_⟩
  obtain ⟨T, z, e1, e2, e3, e4⟩ := y
  exact ⟨T, .int (i : Nat), z, e1, e2, e3, rfl, e4 xs h⟩
end AT

set_option maxHeartbeats 4000000
namespace AT
open PySem PySem.Spec PyProof.Rows L2
/-! ### lists and tuples alike -/
def rIxQ (K : PySem.W.Frag) : R2 := fun x y H Q => ∃ p xs i v, x = .ref p ∧ y = .int i ∧ (SqL K H p xs ∨ SqT K H p xs) ∧ atI xs i = some v ∧ Q v H
theorem ix_sq {X : Cx} : IxR X (rIxQ X.K) := by
  intro value slice pins s σ H x y v u Q I rx ry h hs
  obtain ⟨p, xs, i, z, e1, e2, hq | hq, he, q⟩ := h
  · exact ix_list value slice pins s σ H x y v u Q I rx ry ⟨p, xs, i, z, e1, e2, hq, he, q⟩ hs
  · exact ix_tup value slice pins s σ H x y v u Q I rx ry ⟨p, xs, i, z, e1, e2, hq, he, q⟩ hs
/-- enumerate(..) of either -/
theorem en_walk {K : PySem.W.Frag} {H : Hp} {a : Addr} {xs : List V} {J : It} (h : EnOf K H a xs J) : ∃ G : Hp → Prop, Walk J xs.length G (YPair (fun i => some (.int (i : Nat))) (fun i => xs[i]?)) ∧ ∀ H', H' a = H a → G H' := by
  rcases h with ⟨h, rfl⟩ | ⟨h, rfl⟩
  · refine ⟨_, walk_enum, fun H' e => ?_⟩
    rcases h with (h | ⟨o, h⟩) | h
    · exact .inl (.inl (e.trans h))
    · exact .inl (.inr ⟨o, e.trans h⟩)
    · exact .inr h
  · refine ⟨_, walk_enumT, fun H' e => ?_⟩
    rcases h with (h | ⟨o, h⟩) | h
    · exact .inl (.inl (e.trans h))
    · exact .inl (.inr ⟨o, e.trans h⟩)
    · exact .inr h
end AT

set_option maxHeartbeats 4000000
namespace AT
open PySem PySem.Spec PyProof.Rows L2
theorem Same.sql {K : PySem.W.Frag} {H H' : Hp} {a : Addr} {xs : List V} (e : Same H H') (h : SqL K H a xs) : SqL K H' a xs := by
  rcases h with (h | ⟨o, h⟩) | h
  · exact .inl (.inl (e _ _ h))
  · exact .inl (.inr ⟨o, e _ _ h⟩)
  · exact .inr h
def SqB (K : PySem.W.Frag) (H : Hp) (a : Addr) (xs : List V) : Bool → Prop
  | true => SqL K H a xs
  | false => SqT K H a xs
def mkS (xs : List V) : Bool → HO
  | true => .lst xs
  | false => .tup xs
theorem SqB.of {K : PySem.W.Frag} {H : Hp} {a : Addr} {xs : List V} {b : Bool} (h : H a = some (mkS xs b)) : SqB K H a xs b := by
  cases b with
  | true => exact SqL.of h
  | false => exact SqT.of h
theorem SqB.or {K : PySem.W.Frag} {H : Hp} {a : Addr} {xs : List V} {b : Bool} (h : SqB K H a xs b) : SqL K H a xs ∨ SqT K H a xs := by
  cases b with
  | true => exact .inl h
  | false => exact .inr h
/-- a slice of a list (a new list) or a tuple (a new tuple, if it is not all of it) -/
def rSlQ (K : PySem.W.Frag) : V → Option Int → Option Int → Hp → VK → Prop := fun x lo hi H Q => ∃ a xs b, x = .ref a ∧ SqB K H a xs b ∧ (b = false → ¬ (HT.sIx xs.length 0 lo = 0 ∧ HT.sIx xs.length xs.length hi = xs.length)) ∧ ∀ p, H p = none → Q (.ref p) (upd H p (mkS (cutV xs lo hi) b))
theorem sl_sq {X : Cx} : SlR X (rSlQ X.K) := by
  intro pins s σ H x v vl vu lo hi sl Q I rx hs pl pu h
  obtain ⟨a, xs, b, e, hq, hw, q⟩ := h
  cases b with
  | true => exact sl_list pins s σ H x v vl vu lo hi sl Q I rx hs pl pu ⟨a, xs, e, hq, q⟩
  | false => exact sl_tup pins s σ H x v vl vu lo hi sl Q I rx hs pl pu ⟨a, xs, e, hq, hw rfl, q⟩
theorem walk_zipT {K : PySem.W.Frag} {a b : Addr} {xs ys : List V} {n : Nat} (hn : n = min xs.length ys.length) : Walk (RZ.ItzT K a b) n (fun H => SqT K H a xs ∧ SqT K H b ys) (YPair (fun i => xs[i]?) (fun i => ys[i]?)) := by
  subst hn
  refine ⟨fun i H hi h => ⟨xs, ys, _, _, h.1, h.2, List.getElem?_eq_getElem (by omega), List.getElem?_eq_getElem (by omega)⟩, fun H h => ⟨xs, ys, h.1, h.2, by omega⟩, fun i H v H' hi h y => ?_⟩
  obtain ⟨T, x, z, e1, e2, e3, e4, e5⟩ := y
  exact ⟨T, x, z, e1, e2, e3, e4 xs h.1, e5 ys h.2⟩
end AT

set_option maxHeartbeats 4000000
namespace AT
open PySem PySem.Spec PyProof.Rows L2
/-! ### isinstance(e, c) where e has fields -/
section
variable {prog : Program} {w : World} {A : Around} {E : Value → Shared → Prop} {t : Shared} {K : PySem.W.Frag} {p D : Addr} {oo od : Obj}
theorem cls_of {R : Option Value → Shared → Prop} (C : ExcC K D) (KI : K.In t.heap) (J : PySem.W.InstAt t.heap p oo D (some od)) (go : R (some (.ref D)) { t with toks := t.toks + 1 }) : wpAny (model prog w) A (getAttr? (.ref p) "__class__") R E t := by
  have fo : PySem.W.findObj K D (some od) "__class__" = some (.bind (.builtin "getset_descriptor.__get__") (.builtin "object.__class__")) := PySem.W.findObj_data (by obtain ⟨cd, z, _⟩ := PySem.W.any_some C.hd; rw [z]; rfl) C.ha C.hn C.ht
  obtain ⟨g0, g1, g2, g3, g4⟩ := t
  have k0 := J.type (M := model prog w)
  have k1 := PySem.W.looks_findIn (M := model prog w) KI C.hg
  have k2 := PySem.W.looks_findIn (M := model prog w) KI C.hk
  have k3 := PySem.W.looks_find (M := model prog w) KI J fo
  have k4 : PySem.W.Looks (model prog w) g0 (isInstance (.ref p) (.type "BaseException")) true := k0.andThen (PySem.W.looks_subIn KI C.hs)
  have z0 : (false && onTheHeap (Value.builtin "BaseException.__getattribute__")) = false := rfl
  have z1 : (Value.builtin "BaseException.__getattribute__" == Value.builtin "object.__getattribute__") = false := by decide +kernel
  have z2 : (onTheHeap (Value.ref D) && Value.builtin "BaseException.__getattribute__" == Value.builtin "object.__getattribute__") = false := by rw [z1]; rfl
  unfold getAttr? getAttrBy? getAttrBy
  refine wpAny_bind (wpAny_mkText (wpAny_bind (wpAny_attempt (wpAny_holding (wpAny_bind (k0.at (wpAny_bind (k1.at ?_))))))))
  show wpAny _ _ (if (onTheHeap (Value.ref D) && Value.builtin "BaseException.__getattribute__" == Value.builtin "object.__getattribute__") = true then _ else _) _ _ ⟨_, _, _, _, _⟩
  rw [z2, if_neg Bool.false_ne_true]
  unfold getAttrByItsOwn hookBefore
  refine wpAny_bind ?_
  rw [if_pos (show onTheHeap (Value.ref D) = true from rfl)]
  refine k2.at (wpAny_bind (wpAny_attempt (wpAny_holding ?_)))
  unfold callGetattribute
  rw [z0, if_neg Bool.false_ne_true]
  unfold boundAndCalled
  rw [PySem.F.excAttr_ValueError.ga.bind (.ref p)]
  refine wpAny_bind (wpAny_pure ?_)
  show wpAny _ _ (call (.builtin "BaseException.__getattribute__") [.ref p, .str "__class__" g3]) _ _ _
  refine wpAny_call (codeAny_call_builtin PySem.F.excAttr_ValueError.ga.plain PySem.F.entry_bexc_ga ?_)
  refine @PySem.W.check_slot (model prog w) _ _ ⟨g0, g1, g2, g3 + 1, g4⟩ "BaseException.__getattribute__" "BaseException" "__getattribute__" (.ref p) [.str "__class__" g3] [] _ (by decide +kernel) (by decide +kernel) k4 (PySem.F.args_bexc_ga (.ref p) (.str "__class__" g3)) ?_
  unfold Builtin.«object.__getattribute__»
  refine wpAny_bind (wpAny_of_eq (a := ((Value.ref p : Value), [Value.str "__class__" g3])) (by first | rfl | (simp only [slotArgs]; rfl)) ?_)
  refine wpAny_bind (wpAny_pure (wpAny_bind (k0.at (wpAny_bind (k3.at ?_)))))
  show wpAny _ _ (holding [Value.builtin "object.__class__"] (call (.builtin "getset_descriptor.__get__") [.builtin "object.__class__", .ref p, .ref D]) >>= fun z => ret z) _ _ _
  refine wpAny_bind (wpAny_holding (wpAny_call (PySem.W.class_get (s := ⟨g0, g1, g2, g3 + 1, g4⟩) (ox := oo) (od := some od) KI J C.hm ?_)))
  refine wpAny_pure ?_
  show wpAny _ _ (handedOut (.ref D)) _ _ ⟨_, _, _, _, _⟩
  rw [PySem.W.handedOut_of (v := .ref D) rfl]
  exact wpAny_pure (wpAny_pure go)
theorem kitx_of (C : ExcC K D) : PySem.W.KitX K (.ref p) (.ref D) (fun h => PySem.W.InstAt h p oo D (some od)) where
  ty := fun _ _ _ J => J.type
  it := fun _ _ KI _ => by
    obtain ⟨cd, z, _⟩ := PySem.W.any_some C.hd
    unfold PySem.W.clsIn at z
    split at z
    · rename_i c1 d1 cd1 sl1 e1
      intro A1 Q1 E1 s1 k q
      unfold isType loadHead
      exact wpAny_bind (wpAny_loadPart (k _ _ (KI _ _ e1)) (wpAny_pure q))
    · cases z
  ne := fun h tp dd its n sl KI e2 => by
    obtain ⟨cd, z, _⟩ := PySem.W.any_some C.hd
    refine Bool.eq_false_iff.mpr fun q => ?_
    have e : D = tp := Value.ref.inj (beq_iff_eq.mp q)
    subst e
    unfold PySem.W.clsIn at z
    split at z
    · rename_i c1 d1 cd1 sl1 e1
      have y := (KI _ _ e1).symm.trans e2
      cases y
    · cases z
  ca := fun KI J k => cls_of C KI J k
end
/-- isinstance(e, c), e the exception that the suite holds, its fields at d -/
def rIsX (K : PySem.W.Frag) (D a d : Addr) : List V → Hp → VK → Prop := fun xs H Q => ∃ (c : V) (cv : Value) (b : Bool) (fs : List (Str × V)), xs = [.ref a, c] ∧ ClsV c cv ∧ PySem.W.kitOne K (.ref D) cv = some b ∧ H d = some (.xd fs) ∧ Q (.bl b) H
theorem call_isX {X : Cx} {a D d : Addr} {oe : Obj} {cls : Value} {dd : Option Addr} {pn : List (Addr × Obj)} (C : ExcC X.K D) (hz : Zc cls dd oe) (hf : ∃ vs, oe.data = .fields vs) : CallR (X.suite a ((a, oe) :: pn)) (.builtin "isinstance") (fun xs H Q => cls = .ref D ∧ ∃ d, dd = some d ∧ rIsX X.K D a d xs H Q) := by
  intro pins s σ H xs us Q I r h
  obtain ⟨rfl, d, rfl, c, cv, b, fs, rfl, hcv, e, hd, q⟩ := h
  obtain ⟨u1, u2, rfl, r1, r2⟩ : ∃ u1 u2, us = [u1, u2] ∧ RelV (.ref a) u1 ∧ RelV c u2 := by
    cases r with
    | cons rx rr =>
      cases rr with
      | cons rt rr =>
        cases rr
        exact ⟨_, _, rfl, rx, rt⟩
  cases r1
  have ec : u2 = cv := by
    cases hcv <;> (cases r2; rfl)
  subst ec
  obtain ⟨ha, _⟩ := I.pin (a, oe) (List.mem_append.mpr (.inl List.mem_cons_self))
  obtain ⟨vs, hv⟩ := hf
  obtain ⟨mA, hns, hr⟩ := (show ObjOk X.prog X.w H s.heap d (.xd fs) from I.hok d _ hd)
  obtain ⟨od, ho, hl⟩ := lookIn_ns hns
  have J : PySem.W.InstAt s.heap a oe D (some od) := ⟨ha, hz.1, by unfold PySem.W.notCls; rw [hv] <;> rfl, by rw [hz.2]; exact ho⟩
  exact PySem.W.kia_one (kitx_of C) I.kIn J e (fun z => nomatch z) fun tk => ⟨.bl b, H, I.kept (t' := tk) fun _ _ z => z, rfl, q⟩
def excsB (x : Str) (K : PySem.W.Frag) : Bool :=
  He.eqO (PySem.W.findIn K (.ref (He.ga K x)) "__getattribute__") (some (some (.builtin "BaseException.__getattribute__"))) && (He.eqO (PySem.W.findIn K (.ref (He.ga K x)) "__getattr__") (some none) && (decide (PySem.W.subIn K (.ref (He.ga K x)) (.type "BaseException") = some true) && (PySem.W.hasDictIn K (He.ga K x) &&
    (He.eqO (PySem.W.findIn K (.ref (He.ga K x)) "__class__") (some (some (.builtin "object.__class__"))) && (He.eqO (PySem.W.specialIn K (.builtin "object.__class__") "__get__") (some (some (.builtin "getset_descriptor.__get__"))) && (decide (PySem.W.takesIn K (.builtin "object.__class__") = some true) && decide (PySem.W.mroIn K (He.ga K x) (.type "object") = some true)))))))
theorem excs_ok {x : Str} {K : PySem.W.Frag} (h : excsB x K = true) : ExcC K (He.ga K x) := by
  unfold excsB at h
  simp only [Bool.and_eq_true] at h
  obtain ⟨h1, h2, h3, h4, h5, h6, h7, h8⟩ := h
  exact ⟨He.eqO_ok h1, He.eqO_ok h2, of_decide_eq_true h3, h4, He.eqO_ok h5, He.eqO_ok h6, of_decide_eq_true h7, of_decide_eq_true h8⟩
end AT

set_option maxHeartbeats 4000000
namespace AT
open PySem PySem.Spec PyProof.Rows L2
/-! ### C(..) in a try's body -/
section
variable {X : Cx} {k : Nat} {f C : Addr} {ps : List Str} {sp : Sp} {x : Str} {p pos : Pos} {e : Expr} {es : List Expr} {t : TA}
theorem make_at {fd : FuncData} {E : XK} {pins : List (Addr × Obj)} {σ : L2.St} {H : Hp} {s : Shared} {Q : VK} {us : List Value} {vs : List V} (M : Mk X.K C f) (F : FnOk X.prog X.w X.K X.mg X.base (L2.CX X.prog X.w) k f fd ps sp) (hr : Room (k + 1) X.A) (hb : Binds X.K fd ps [])
    (hx : PassesAt (L2.CX X.prog X.w) X σ E) (I : Inv X pins σ H s) (r : Vals vs us) (go : ∀ q d, H q = none → H d = none → d ≠ q → sp (.ref q :: vs) (upd (upd H d (.own q)) q (.ins C d [])) (fun v H2 => v = .non ∧ Q (.ref q) H2) E) : wpAny (model X.prog X.w) X.A (call (.ref C) us) (EP X pins σ Q) X.xe s := by
  have g := go (s.heap.objs.size + 1) s.heap.objs.size (I.hok.fresh (Nat.le_succ _)) (I.hok.fresh (Nat.le_refl _)) (Nat.ne_of_lt (Nat.lt_succ_self _))
  have J := Inv.made (C := C) I
  have rr : Vals (V.ref (s.heap.objs.size + 1) :: vs) (Value.ref (s.heap.objs.size + 1) :: us) := .cons rfl r
  have ln : (Value.ref (s.heap.objs.size + 1) :: us).length = ps.length := by
    have z := rr.length
    rw [F.len _ _ _ _ g] at z
    exact z.symm
  have bd := hb _ (Value.ref (s.heap.objs.size + 1) :: us) J.kIn (by simpa using ln)
  rw [List.append_nil] at bd
  refine wpAny_call (make_map (f := f) I.kIn M.makes M.init (beq_iff_eq.mp M.fn) (codeAny_mono (F.run _ X.stack _ _ ⟨Value.ref (s.heap.objs.size + 1) :: us, []⟩ _ _ _ E (hr.make C us []) (J.env0.make C us []) bd rr g) fun res s' hq => ?_))
  cases res with
  | error er => exact hx pins _ _ er s' J hq
  | ok fl =>
    cases fl with
    | ret u =>
      obtain ⟨v, H', J', rv, ev, q⟩ := J.after hq
      subst ev
      exact ⟨rv, ⟨V.ref (s.heap.objs.size + 1), H', J', rfl, q⟩⟩
    | _ => exact False.elim hq
def tMakeS (C : Addr) (sp : Sp) (E : L2.St → XK) (t : TA) : TE := fun σ H Q => t σ H fun vs H1 => ∀ q d, H1 q = none → H1 d = none → d ≠ q → sp (.ref q :: vs) (upd (upd H1 d (.own q)) q (.ins C d [])) (fun v H2 => v = .non ∧ Q (.ref q) H2) (E σ)
theorem ok_makeS {W : WX} (M : Mk X.K C f) (F : Ok X.prog X.w X.K X.mg X.base k f ps sp) (hr : Room (k + 1) X.A) (hg : Gl X x) (hm : X.mg x = some (.ref C)) (tk : Takes X W) (ha : PA X (e :: es) t)
    (hdb : (x == ("__debug__" : Str)) = false := by decide) (hst : starEach (e :: es) X.env = (false, eval e X.env) :: starEach es X.env := by rfl) (hns : (backTo pos (starEach es X.env)).any (·.1) = false := by rfl) :
    PE X (.Call (.Name x p) (e :: es) [] pos) (tMakeS C sp (fun σ cls d H => W cls d σ H) t) := by
  obtain ⟨fd, F1, b, kp⟩ := F
  constructor
  intro pins s σ H Q I h
  refine wpAny_Call_Name_kw (ld_glob I hg hm ?_ hdb)
  refine PySem.W.callWith_K (h₀ := X.base) I.ok.mod.kin M.kp (thn (ha.run pos pins s σ H _ I h) fun us s1 z => ?_) hst hns
  obtain ⟨vs, H1, I1, r, q⟩ := z
  exact ⟨I1.kIn, make_at M F1 hr b (passAt tk σ) I1 r q⟩
end
end AT

set_option maxHeartbeats 4000000
namespace AT
open PySem PySem.Spec PyProof.Rows L2
/-- lists of unlike lengths -/
def rNeL (K : PySem.W.Frag) : R2 := fun x y H Q => ∃ a b xs ys, x = .ref a ∧ y = .ref b ∧ SqL K H a xs ∧ SqL K H b ys ∧ xs.length ≠ ys.length ∧ Q (.bl true) H
theorem op_neL {X : Cx} (hu : X.A.units + 64 < cLine) : OpR X (compareOp .NotEq) (rNeL X.K) := by
  intro pins s σ H x y v u Q I rx ry h
  obtain ⟨a, b, xs, ys, rfl, rfl, ha, hb, hn, q⟩ := h
  cases rx
  cases ry
  obtain ⟨its, rv, pl, _⟩ := I.list ha
  obtain ⟨jts, rw, ql, _⟩ := I.list hb
  refine (SeqAt.RcNeAt.lists_lengths pl.isList ql.isList ?_ (by omega)) X.prog X.w X.xe _ ⟨.bl true, H, I, rfl, q⟩
  rw [List.size_toArray, List.size_toArray, ← rv.length, ← rw.length]
  simpa using hn
end AT

set_option maxHeartbeats 4000000
namespace AT
open PySem PySem.Spec PyProof.Rows L2
section
variable {X : Cx}
/-- a list that is not itself -/
def rNeLS (K : PySem.W.Frag) : R2 := fun x y H Q => ∃ a xs, x = .ref a ∧ y = .ref a ∧ SqL K H a xs ∧ Q (.bl false) H
theorem op_neLS (hu : X.A.units + 64 < cLine) : OpR X (compareOp .NotEq) (rNeLS X.K) := by
  intro pins s σ H x y v u Q I rx ry h
  obtain ⟨a, xs, rfl, rfl, ha, q⟩ := h
  cases rx
  cases ry
  obtain ⟨its, rv, pl, _⟩ := I.list ha
  refine (SeqAt.RcNeAt.lists (e := fun _ => true) pl.isList pl.isList rfl (by omega) (fun j _ _ => SeqAt.EqAt.same _)) X.prog X.w X.xe _ ?_
  exact ⟨.bl false, H, I, (by show _ = _; simp), q⟩
/-- b is not c, two truths -/
def rNtB : R2 := fun x y H Q => ∃ b c, x = .bl b ∧ y = .bl c ∧ Q (.bl (b != c)) H
theorem op_ntB : OpR X (compareOp .IsNot) rNtB := by
  intro pins s σ H x y v u Q I rx ry h
  obtain ⟨b, c, rfl, rfl, q⟩ := h
  cases rx
  cases ry
  exact isnot_bool ⟨.bl _, H, I, rfl, q⟩
end
end AT

set_option maxHeartbeats 4000000
namespace AT
open PySem PySem.Spec PyProof.Rows L2
section
open MeetsSeq MeetsSeq2 MeetsSeq3 SeqRoads2
open AutoSeq1 (wpAny_loadPart')
variable {prog : Program} {w : World} {A : Around}
/-- == of two tuples whose items are compared one by one, each comparison keeping J -/
theorem tupc_body {R : Result → Shared → Prop} {p q : Addr} {us vs : Array Value} {m1 m2 : Nat} {d1 d2 : Option Addr} {sl1 sl2 : Array (Option Value)} {e : Nat → Bool} {J : Shared → Prop} {t : Shared}
    (step : ∀ j (g1 : j < us.size) (g2 : j < vs.size) t, J t → wpAny (model prog w) A.in1 (eqBool us[j] vs[j]) (fun c t' => c = e j ∧ J t') (fun er t' => R (.error er) t') t)
    (done : ∀ t, J t → R (.ok (.ret (.bool ((List.range (min us.size vs.size)).all e && us.size == vs.size)))) t)
    (hp : t.heap.get? p = some { cls := .type "tuple", dict := d1, data := .seq us m1, slots := sl1 }) (hq : t.heap.get? q = some { cls := .type "tuple", dict := d2, data := .seq vs m2, slots := sl2 }) (h0 : J t) :
    wpAny (model prog w) A.in1 (Builtin.«tuple.__eq__» ⟨[.ref p, .ref q], []⟩) (GQ.FinOf prog w A R) (fun er t' => R (.error er) t') t := by
  have sb := AutoSeq1.sub_tuple_tuple
  have hZ : (us.toList.zip vs.toList).length = min us.size vs.size := by simp
  have keep := h0
  obtain ⟨x1, x2, x3, x4, x5⟩ := t
  wp_walk using wpAny_loadPart' hp, wpAny_loadPart' hq, wpAny_forIn_list _ (fun rest b t' => b.1 = none ∧ ∃ j, rest = (us.toList.zip vs.toList).drop j ∧ J t' ∧ (((List.range (min us.size vs.size)).take j).all e = true)) _
  case turn =>
    rintro ⟨y, x⟩ rest b t' ⟨hb, j, hz, hJ, hall⟩
    have hlt : j < (us.toList.zip vs.toList).length := by
      by_cases c : j < (us.toList.zip vs.toList).length
      · exact c
      · rw [List.drop_of_length_le (by omega)] at hz; cases hz
    have hm : j < min us.size vs.size := by omega
    have g1 : j < us.size := by omega
    have g2 : j < vs.size := by omega
    rw [List.drop_eq_getElem_cons hlt] at hz
    obtain ⟨e1, hrest⟩ := List.cons.inj hz
    have ey : y = us[j] := by simpa using congrArg Prod.fst e1
    have ex : x = vs[j] := by simpa using congrArg Prod.snd e1
    subst ey ex
    refine wpAny_bind (wpAny_mono (step j g1 g2 t' hJ) (fun c t2 z => ?_) fun _ _ z => z)
    obtain ⟨rfl, hJ2⟩ := z
    have hd : (List.range (min us.size vs.size)) = (List.range (min us.size vs.size)).take j ++ j :: (List.range (min us.size vs.size)).drop (j + 1) := by
      have h1 := (List.take_append_drop j (List.range (min us.size vs.size))).symm
      rw [List.drop_eq_getElem_cons (by simpa using hm)] at h1
      simpa using h1
    cases hc : e j with
    | true =>
      wp_walk
      refine ⟨rfl, j + 1, hrest, hJ2, ?_⟩
      rw [List.take_succ, List.all_append, hall, Bool.true_and]
      simp [hm, hc]
    | false =>
      have fin := done _ hJ2
      rw [hd, List.all_append, List.all_cons, hc] at fin
      wp_walk
      first | exact ⟨_, rfl, by simpa using fin⟩ | simpa using fin
  case fin =>
    rintro ⟨b1, b2⟩ t' ⟨hb, j, hz, hJ, hall⟩
    simp only at hb
    subst hb
    have hge : min us.size vs.size ≤ j := by
      by_cases c : j < (us.toList.zip vs.toList).length
      · rw [List.drop_eq_getElem_cons c] at hz; cases hz
      · omega
    have fin := done _ hJ
    rw [List.take_of_length_le (by simpa using hge)] at hall
    rw [hall, Bool.true_and] at fin
    wp_walk
    first | exact ⟨_, rfl, by simpa [Builtin.Tuple.tupleCompareSizes] using fin⟩ | simpa [Builtin.Tuple.tupleCompareSizes] using fin
  case h => exact ⟨rfl, 0, rfl, keep, by simp⟩
theorem tupc {E : Value → Shared → Prop} {Q : Value → Shared → Prop} {p q : Addr} {us vs : Array Value} {e : Nat → Bool} {J : Shared → Prop} {t : Shared} (hu : A.units < cLine) (hp : t.heap.IsTuple p us) (hq : t.heap.IsTuple q vs)
    (step : ∀ j (g1 : j < us.size) (g2 : j < vs.size) t, J t → wpAny (model prog w) A.in1 (eqBool us[j] vs[j]) (fun c t' => c = e j ∧ J t') E t)
    (done : ∀ t, J t → Q (.bool ((List.range (min us.size vs.size)).all e && us.size == vs.size)) t) (h0 : J t) : wpAny (model prog w) A (richCompare .Eq (.ref p) (.ref q)) Q E t := by
  obtain ⟨⟨c1, d1, t1, sl1⟩, g1, k1, m1, z1⟩ := id hp
  obtain ⟨⟨c2, d2, t2, sl2⟩, g2, k2, m2, z2⟩ := id hq
  simp only at k1 z1 k2 z2
  subst k1 z1 k2 z2
  refine wpAny_richCompare_same_room (op := .Eq) ⟨_, g1, rfl⟩ ⟨_, g2, rfl⟩ F.slot_tuple_eq (GQ.call_here F.slot_tuple_eq ⟨_, g1, rfl⟩ F.entry_tuple_eq (F.args_tuple_eq_2 _ _) ?_) hu
  exact tupc_body (R := wants (fun v t' => v ≠ .notImplemented ∧ Q v t') E) step (fun t' z => ⟨(fun x => nomatch x), done t' z⟩) g1 g2 h0
end
/-! ### == of nested tuples with instances of own classes, both answers; the abstract heap stays -/
abbrev Cmp := V → V → Hp → Bool → Prop
def EqB (X : Cx) (n : Nat) (D : Cmp) : Prop := ∀ (A : Around) (pins : List (Addr × Obj)) (s : Shared) (σ : L2.St) (H : Hp) (x y : V) (u v : Value) (b : Bool), Sub X n A → Inv X pins σ H s → RelV x u → RelV y v → D x y H b →
  wpAny (model X.prog X.w) A (eqBool u v) (fun r s' => r = b ∧ Inv X pins σ H s') X.xe s
def RcB (X : Cx) (n : Nat) (D : Cmp) : Prop := ∀ (A : Around) (pins : List (Addr × Obj)) (s : Shared) (σ : L2.St) (H : Hp) (x y : V) (u v : Value) (b : Bool), Sub X n A → Inv X pins σ H s → RelV x u → RelV y v → D x y H b →
  wpAny (model X.prog X.w) A (richCompare .Eq u v) (fun r s' => r = .bool b ∧ Inv X pins σ H s') X.xe s
section
variable {X : Cx} {n : Nat} {D : Cmp}
/-- the items, pair by pair -/
def Each (D : Cmp) (xs ys : List V) (H : Hp) (e : Nat → Bool) : Prop := ∀ (i : Nat) x y, xs[i]? = some x → ys[i]? = some y → D x y H (e i)
def CTup (K : PySem.W.Frag) (D : Cmp) : Cmp := fun x y H b => ∃ p q xs ys e, x = .ref p ∧ y = .ref q ∧ SqT K H p xs ∧ SqT K H q ys ∧ Each D xs ys H e ∧ b = ((List.range (min xs.length ys.length)).all e && xs.length == ys.length)
theorem rcB_tup (h : EqB X n D) : RcB X (n + 1) (CTup X.K D) := by
  intro A pins s σ H x y u v b sb I rx ry d
  obtain ⟨p, q, xs, ys, e, rfl, rfl, hp, hq, he, rfl⟩ := d
  cases rx
  cases ry
  obtain ⟨us, r1, t1, _⟩ := I.tuple hp
  obtain ⟨vs, r2, t2, _⟩ := I.tuple hq
  refine tupc (e := e) (J := fun t => Inv X pins σ H t) sb.room.units0 t1 t2 (fun j g1 g2 t It => ?_) (fun t It => ⟨?_, It⟩) I
  · rw [List.size_toArray] at g1 g2
    have k1 : j < xs.length := by rw [r1.length]; exact g1
    have k2 : j < ys.length := by rw [r2.length]; exact g2
    obtain ⟨u1, a1, b1⟩ := r1.get (List.getElem?_eq_getElem k1)
    obtain ⟨u2, a2, b2⟩ := r2.get (List.getElem?_eq_getElem k2)
    rw [List.getElem?_eq_getElem g1] at a1
    rw [List.getElem?_eq_getElem g2] at a2
    cases a1
    cases a2
    exact h A.in1 pins t σ H _ _ _ _ _ sb.in1 It b1 b2 (he j _ _ (List.getElem?_eq_getElem k1) (List.getElem?_eq_getElem k2))
  · rw [List.size_toArray, List.size_toArray, ← r1.length, ← r2.length]
/-- within a tuple the very same object is equal to itself -/
theorem RcB.eqB (h : RcB X n D) (hr : ∀ x y H b, D x y H b → ∃ p q, x = .ref p ∧ y = .ref q ∧ (p = q → b = true)) : EqB X n D := by
  intro A pins s σ H x y u v b sb I rx ry d
  obtain ⟨p, q, rfl, rfl, hb⟩ := hr _ _ _ _ d
  cases rx
  cases ry
  by_cases c : p = q
  · subst c
    rw [hb rfl]
    exact SeqAt.EqAt.same (A := A) (s := s) (.ref p) X.prog X.w X.xe _ ⟨rfl, I⟩
  · refine GQ.eqBool_refG c (wpAny_mono (h A pins s σ H (.ref p) (.ref q) _ _ b sb I rfl rfl d) (fun r s' z => ?_) fun _ _ z => z)
    exact ⟨b, z.1, rfl, z.2⟩
/-- instances of the class C, by its own __eq__ -/
def CIns (C : Addr) (R : Addr → Addr → Hp → Bool → Prop) : Cmp := fun x y H b => ∃ p q d1 d2 f1 f2, x = .ref p ∧ y = .ref q ∧ H p = some (.ins C d1 f1) ∧ H q = some (.ins C d2 f2) ∧ R p q H b
theorem rcB_ins {k : Nat} {C f : Addr} {ps : List Str} {sp : Sp} {E : XK} {R : Addr → Addr → Hp → Bool → Prop} (O : EqC X.K C f) (F : Ok X.prog X.w X.K X.mg X.base k f ps sp) (hx : Passes (L2.CX X.prog X.w) X E)
    (hsp : ∀ p q H b, R p q H b → sp [.ref p, .ref q] H (fun v H' => v = .bl b ∧ H' = H) E) : RcB X k (CIns C R) := by
  intro A pins s σ H x y u v b sb I rx ry d
  obtain ⟨p, q, d1, d2, f1, f2, rfl, rfl, hp, hq, hR⟩ := d
  obtain ⟨fd, F1, bd, kp⟩ := F
  cases rx
  cases ry
  obtain ⟨mA, J1, _⟩ := ins_get I.hok hp
  obtain ⟨mB, J2, _⟩ := ins_get I.hok hq
  obtain ⟨o1, J1, _⟩ := J1.look
  obtain ⟨o2, J2, _⟩ := J2.look
  obtain ⟨m, hF⟩ := I.fr
  refine PySem.W.cmp_K (op := .Eq) (tb := .ref C) sb.room.units0 hF I.ok.mod.kin J1 J2.type (by simp [PySem.W.notFirst]) O.find O.fn ?_
  refine wpAny_mono (run_in (us := [.ref p, .ref q]) (vs := [.ref p, .ref q]) sb.fr F1 sb.room bd hx I (.cons rfl (.cons rfl .nil)) (hsp p q H b hR)) (fun r s' z => ?_) fun _ _ z => z
  obtain ⟨x1, H1, I1, r1, rfl, rfl⟩ := z
  cases r1
  exact ⟨rfl, I1⟩
theorem eqB_ins {k : Nat} {C f : Addr} {ps : List Str} {sp : Sp} {E : XK} {R : Addr → Addr → Hp → Bool → Prop} (O : EqC X.K C f) (F : Ok X.prog X.w X.K X.mg X.base k f ps sp) (hx : Passes (L2.CX X.prog X.w) X E)
    (hsp : ∀ p q H b, R p q H b → sp [.ref p, .ref q] H (fun v H' => v = .bl b ∧ H' = H) E) (hs : ∀ p H b, R p p H b → b = true) : EqB X k (CIns C R) :=
  (rcB_ins O F hx hsp).eqB fun x y H b d => by
    obtain ⟨p, q, _, _, _, _, hx, hy, _, _, hR⟩ := d
    exact ⟨p, q, hx, hy, fun z => by subst z; exact hs p H b hR⟩
/-- x == y -/
def rEqB (D : Cmp) : R2 := fun x y H Q => ∃ b, D x y H b ∧ Q (.bl b) H
theorem op_eqB (h : RcB X n D) (hr : Room n X.A) : OpR X (compareOp .Eq) (rEqB D) := by
  intro pins s σ H x y v u Q I rx ry hq
  obtain ⟨b, d, q⟩ := hq
  show wpAny (model X.prog X.w) X.A (richCompare .Eq v u) (EP X pins σ Q) X.xe s
  refine wpAny_mono (h X.A pins s σ H x y v u b ⟨hr, rfl⟩ I rx ry d) (fun r s' z => ?_) fun _ _ z => z
  obtain ⟨rfl, I'⟩ := z
  exact ⟨.bl b, H, I', rfl, q⟩
end
end AT

set_option maxHeartbeats 4000000
namespace AT
open PySem PySem.Spec PyProof.Rows L2
/-! ### instances called, classes made with all defaults -/
def coB (x : Str) (K : PySem.W.Frag) : Bool := He.eqO (PySem.W.findIn K (.ref (He.ga K x)) "__call__") (some (some (.ref (He.ma K (He.ga K x) "__call__")))) && (PySem.W.isFn K (.ref (He.ma K (He.ga K x) "__call__")) && PySem.W.fnIn K (He.ma K (He.ga K x) "__call__"))
theorem co_ok {x : Str} {K : PySem.W.Frag} (h : coB x K = true) : StX.CallO K (He.ga K x) (He.ma K (He.ga K x) "__call__") := by
  unfold coB at h
  simp only [Bool.and_eq_true] at h
  exact ⟨He.eqO_ok h.1, h.2.1, h.2.2⟩
section
variable {X : Cx} {k : Nat} {f C g : Addr} {ps : List Str} {sp : Sp} {dvs : List V} {E : XK} {x : Str} {p pos : Pos} {e fe : Expr} {es : List Expr} {tf : TE} {t : TA}
theorem ok_callO (c : StX.CallO X.K C g) (F : Ok X.prog X.w X.K X.mg X.base k g ps sp) (hr : Room k X.A) (hx : Passes (L2.CX X.prog X.w) X E) (hf : PE X fe tf) (ha : PA X (e :: es) t)
    (ht : eval (.Call fe (e :: es) [] pos) X.env = (do callWith pos (← eval fe X.env) [] (backTo pos (starEach (e :: es) X.env)) (backToKw pos (keywordEach [] X.env))) := by rfl)
    (he : starEach (e :: es) X.env = (false, eval e X.env) :: starEach es X.env := by rfl) (hpl : (backTo pos (starEach es X.env)).any (·.1) = false := by rfl) : PE X (.Call fe (e :: es) [] pos) (StX.tCallO X C sp E tf t) := by
  obtain ⟨fd, F1, b, kp⟩ := F
  exact StX.pe_callO hf c ((FnOk.raw F1 b .nil).imp fun vs H Q E h => by rw [List.append_nil]; exact h) hr hx ha ht he hpl
theorem ok_makeD0 (M : Mk X.K C f) (F : OkD X.prog X.w X.K X.mg X.base k f ps dvs sp) (hr : Room (k + 1) X.A) (hg : Gl X x) (hm : X.mg x = some (.ref C)) (hx : Passes (L2.CX X.prog X.w) X E)
    (hdb : (x == ("__debug__" : Str)) = false := by decide) : PE X (.Call (.Name x p) [] [] pos) (tMake C sp dvs E tNil) := by
  obtain ⟨fd, ds, F1, vd, b, kp⟩ := F
  exact pe_make0 M F1 hr hg hm b vd hx hdb
end
/-! ### tuples within tuples -/
section
variable {X : Cx} {n : Nat} {D : Cmp}
def Refl (D : Cmp) : Prop := ∀ x H b, D x x H b → b = true
/-- tuples that stand in the heap -/
def CTuH (D : Cmp) : Cmp := fun x y H b => ∃ p q xs ys e, x = .ref p ∧ y = .ref q ∧ H p = some (.tup xs) ∧ H q = some (.tup ys) ∧ Each D xs ys H e ∧ b = ((List.range (min xs.length ys.length)).all e && xs.length == ys.length)
theorem CTuH.refl (h : Refl D) : Refl (CTuH D) := by
  rintro x H b ⟨p, q, xs, ys, e, rfl, e1, h1, h2, he, rfl⟩
  cases e1
  rw [h1] at h2
  cases h2
  simp only [Nat.min_self, beq_self_eq_true, Bool.and_true, List.all_eq_true, List.mem_range]
  intro i hi
  exact h _ _ _ (he i _ _ (List.getElem?_eq_getElem hi) (List.getElem?_eq_getElem hi))
theorem rcB_tuH (h : EqB X n D) : RcB X (n + 1) (CTuH D) := fun A pins s σ H x y u v b sb I rx ry d => by
  obtain ⟨p, q, xs, ys, e, h1, h2, h3, h4, h5, h6⟩ := d
  exact rcB_tup h A pins s σ H x y u v b sb I rx ry ⟨p, q, xs, ys, e, h1, h2, SqT.of h3, SqT.of h4, h5, h6⟩
theorem eqB_tuH (h : EqB X n D) (hs : Refl D) : EqB X (n + 1) (CTuH D) := (rcB_tuH h).eqB fun x y H b d => by
  obtain ⟨p, q, xs, ys, e, h1, h2, h3⟩ := id d
  refine ⟨p, q, h1, h2, fun z => ?_⟩
  subst z
  rw [h1, h2] at d
  exact CTuH.refl hs _ _ _ d
end
end AT

set_option maxHeartbeats 4000000
namespace AT
open PySem PySem.Spec PyProof.Rows L2
section
variable {X : Cx}
/-- a list compared with an empty one -/
def Emp (K : PySem.W.Frag) (x y : V) (H : Hp) (xs : List V) : Prop := ∃ a b, x = .ref a ∧ y = .ref b ∧ SqL K H a xs ∧ SqL K H b []
def rEqE (K : PySem.W.Frag) : R2 := fun x y H Q => ∃ xs, Emp K x y H xs ∧ Q (.bl xs.isEmpty) H
def rNeE (K : PySem.W.Frag) : R2 := fun x y H Q => ∃ xs, Emp K x y H xs ∧ Q (.bl (!xs.isEmpty)) H
theorem op_eqE (hu : X.A.units + 64 < cLine) : OpR X (compareOp .Eq) (rEqE X.K) := by
  intro pins s σ H x y v u Q I rx ry h
  obtain ⟨xs, ⟨a, b, rfl, rfl, ha, hb⟩, q⟩ := h
  cases rx
  cases ry
  obtain ⟨its, rv, pl, _⟩ := I.list ha
  obtain ⟨jts, rw, ql, _⟩ := I.list hb
  cases rw
  cases xs with
  | nil =>
    cases rv
    refine (SeqAt.RcAt.lists (e := fun _ => true) pl.isList ql.isList rfl (by omega) (fun j h _ => absurd h (by simp))) X.prog X.w X.xe _ ⟨.bl true, H, I, (by show _ = _; simp), q⟩
  | cons z zs =>
    cases rv with
    | cons r1 r2 => refine (SeqAt.RcAt.lists_lengths pl.isList ql.isList (by simp) (by omega)) X.prog X.w X.xe _ ⟨.bl false, H, I, rfl, q⟩
theorem op_neE (hu : X.A.units + 64 < cLine) : OpR X (compareOp .NotEq) (rNeE X.K) := by
  intro pins s σ H x y v u Q I rx ry h
  obtain ⟨xs, ⟨a, b, rfl, rfl, ha, hb⟩, q⟩ := h
  cases rx
  cases ry
  obtain ⟨its, rv, pl, _⟩ := I.list ha
  obtain ⟨jts, rw, ql, _⟩ := I.list hb
  cases rw
  cases xs with
  | nil =>
    cases rv
    refine (SeqAt.RcNeAt.lists (e := fun _ => true) pl.isList ql.isList rfl (by omega) (fun j h _ => absurd h (by simp))) X.prog X.w X.xe _ ⟨.bl false, H, I, (by show _ = _; simp), q⟩
  | cons z zs =>
    cases rv with
    | cons r1 r2 => refine (SeqAt.RcNeAt.lists_lengths pl.isList ql.isList (by simp) (by omega)) X.prog X.w X.xe _ ⟨.bl true, H, I, rfl, q⟩
end
end AT

set_option maxHeartbeats 4000000
namespace AT
open PySem L2
theorem cut_to (xs : List V) (k : Nat) : cutV xs none (some (k : Int)) = xs.take k := by
  unfold cutV
  rw [HT.sIx_nat, HT.sIx_none, List.drop_zero, Nat.sub_zero]
  by_cases h : k ≤ xs.length
  · rw [Nat.min_eq_left h]
  · rw [Nat.min_eq_right (by omega), List.take_length, List.take_of_length_le (by omega)]
theorem cut_from (xs : List V) (k : Nat) : cutV xs (some (k : Int)) none = xs.drop k := by
  unfold cutV
  rw [HT.sIx_nat, HT.sIx_none]
  by_cases h : k ≤ xs.length
  · rw [Nat.min_eq_left h]
    exact List.take_of_length_le (by simp)
  · rw [Nat.min_eq_right (by omega), List.drop_of_length_le (by omega), List.drop_of_length_le (by omega)]
    simp
theorem cut_last (xs : List V) : cutV xs (some (-1)) none = xs.drop (xs.length - 1) := by
  unfold cutV
  have e : HT.sIx xs.length 0 (some (-1)) = xs.length - 1 := by
    show (if (-1 : Int) < 0 then ((-1 : Int) + (xs.length : Int)).toNat else min (-1 : Int).toNat xs.length) = _
    rw [if_pos (by decide)]
    omega
  rw [e, HT.sIx_none]
  exact List.take_of_length_le (by simp)
end AT

set_option maxHeartbeats 4000000
namespace AT
open PySem PySem.Spec PyProof.Rows L2
/-- tuple(x), its question by the written part K -/
def rTupOf (K : PySem.W.Frag) : List V → Hp → VK → Prop := fun xs H Q => ∃ p ys, xs = [.ref p] ∧ ((SqL K H p ys ∧ ∀ l, H l = none → Q (.ref l) (upd H l (.tup ys))) ∨ (SqT K H p ys ∧ Q (.ref p) H))
theorem call_tupK {X : Cx} : CallR X (.type "tuple") (rTupOf X.K) := call_tuple_of
end AT

set_option maxHeartbeats 4000000
/-! maps of straight pieces, as lists of points -/
namespace PL
abbrev Pnt := Rat × Rat
def slp (p q : Pnt) : Rat := (q.2 - p.2) / (q.1 - p.1)
def Blw (p q : Pnt) : Prop := p.1 < q.1 ∧ p.2 < q.2
def Ris : List Pnt → Prop
  | [] => True
  | [_] => True
  | p :: q :: r => Blw p q ∧ Ris (q :: r)
/-- from the point p on, with the further points r -/
def goQ : Pnt → List Pnt → Rat → Rat
  | p, [], x => p.2 + (x - p.1)
  | p, q :: r, x => if x < q.1 then p.2 + (x - p.1) / (q.1 - p.1) * (q.2 - p.2) else goQ q r x
def ledR : List Pnt → Rat → Rat
  | [], x => x
  | p :: r, x => if x < p.1 then p.2 + (x - p.1) else goQ p r x
def outS : Pnt → List Pnt → Rat
  | _, [] => 1
  | p, q :: _ => slp p q
/-- the points at which the slope changes; m is the slope ahead of the first -/
def bendR : Rat → List Pnt → List Pnt
  | _, [] => []
  | m, p :: r => if m = outS p r then bendR (outS p r) r else p :: bendR (outS p r) r
def paceR : Rat → List Pnt → Rat → Rat
  | m, [], _ => m
  | m, p :: r, x => if p.1 ≤ x then paceR (outS p r) r x else m
def bendF (ps : List Pnt) : List Pnt := if bendR 1 ps = [] then [(0, ledR ps 0)] else bendR 1 ps
theorem Ris.tail {p : Pnt} {r : List Pnt} (h : Ris (p :: r)) : Ris r := by
  cases r with
  | nil => trivial
  | cons q r => exact h.2
theorem Ris.all {p : Pnt} {r : List Pnt} (h : Ris (p :: r)) : ∀ q ∈ r, Blw p q := by
  induction r generalizing p with
  | nil => intro q hq; cases hq
  | cons q r ih =>
    intro z hz
    rcases List.mem_cons.mp hz with rfl | hz
    · exact h.1
    · have h1 := ih h.2 z hz
      have h2 := h.1
      exact ⟨by have := h1.1; have := h2.1; grind, by have := h1.2; have := h2.2; grind⟩
theorem ris_of {p : Pnt} {r : List Pnt} (h : ∀ q ∈ r, Blw p q) (hr : Ris r) : Ris (p :: r) := by
  cases r with
  | nil => trivial
  | cons q r => exact ⟨h q (by simp), hr⟩
theorem bend_mem {m : Rat} {l : List Pnt} : ∀ {b : Pnt}, b ∈ bendR m l → b ∈ l := by
  induction l generalizing m with
  | nil => intro b h; cases h
  | cons p r ih =>
    intro b h
    unfold bendR at h
    split at h
    · exact List.mem_cons_of_mem _ (ih h)
    · rcases List.mem_cons.mp h with rfl | h
      · simp
      · exact List.mem_cons_of_mem _ (ih h)
theorem bend_ris {m : Rat} {l : List Pnt} (h : Ris l) : Ris (bendR m l) := by
  induction l generalizing m with
  | nil => trivial
  | cons p r ih =>
    unfold bendR
    split
    · exact ih h.tail
    · exact ris_of (fun q hq => h.all q (bend_mem hq)) (ih h.tail)
/-- no bend: the slope is 1 all along -/
theorem bend_nil {m : Rat} {p : Pnt} {r : List Pnt} (h : bendR m (p :: r) = []) : m = 1 := by
  induction r generalizing m p with
  | nil =>
    unfold bendR at h
    split at h
    · assumption
    · cases h
  | cons q r ih =>
    unfold bendR at h
    split at h
    · rename_i e
      have := ih h
      rw [e, this]
    · cases h
theorem slp_line {p q : Pnt} (h : p.1 < q.1) (x : Rat) : p.2 + (x - p.1) * slp p q = q.2 + (x - q.1) * slp p q := by
  unfold slp
  have : q.1 - p.1 ≠ 0 := by grind
  grind
theorem slp_of {p q : Pnt} {n : Rat} (h : p.1 < q.1) (e : q.2 = p.2 + (q.1 - p.1) * n) : slp p q = n := by
  unfold slp
  have : q.1 - p.1 ≠ 0 := by grind
  rw [e]
  grind
/-- the first bend lies on the line -/
theorem bend_line {m : Rat} {p : Pnt} {r : List Pnt} (hr : Ris (p :: r)) {b : Pnt} {bs : List Pnt} (h : bendR m (p :: r) = b :: bs) : b.2 = p.2 + (b.1 - p.1) * m := by
  induction r generalizing m p with
  | nil =>
    unfold bendR at h
    split at h
    · cases h
    · cases h; grind
  | cons q r ih =>
    unfold bendR at h
    split at h
    · rename_i e
      have h1 := ih hr.2 h
      have h2 := slp_line hr.1.1 b.1
      rw [e]
      show b.2 = p.2 + (b.1 - p.1) * slp p q
      rw [h2, h1]
      rfl
    · cases h; grind
theorem bend_out {p : Pnt} {r : List Pnt} (hr : Ris (p :: r)) : outS p (bendR (outS p r) r) = outS p r := by
  cases r with
  | nil => rfl
  | cons q r =>
    cases e : bendR (outS p (q :: r)) (q :: r) with
    | nil => exact (bend_nil e).symm
    | cons b bs =>
      have h1 := bend_line hr.2 e
      have h2 := slp_line hr.1.1 b.1
      have h3 := hr.all b (bend_mem (by rw [e]; simp))
      exact slp_of h3.1 (h1.trans h2.symm)
def G (m : Rat) (p : Pnt) (bs : List Pnt) (x : Rat) : Rat := match bs with
  | [] => p.2 + (x - p.1) * m
  | b :: bs' => if x < b.1 then p.2 + (x - p.1) * m else goQ b bs' x
theorem bend_eq {m : Rat} {p : Pnt} {r : List Pnt} (h : m = outS p r) : bendR m (p :: r) = bendR (outS p r) r := by
  conv => lhs; unfold bendR
  rw [if_pos h]
theorem bend_ne {m : Rat} {p : Pnt} {r : List Pnt} (h : m ≠ outS p r) : bendR m (p :: r) = p :: bendR (outS p r) r := by
  conv => lhs; unfold bendR
  rw [if_neg h]
theorem G_nil {m : Rat} {p : Pnt} {x : Rat} : G m p [] x = p.2 + (x - p.1) * m := rfl
theorem G_cons {m : Rat} {p b : Pnt} {bs : List Pnt} {x : Rat} : G m p (b :: bs) x = if x < b.1 then p.2 + (x - p.1) * m else goQ b bs x := rfl
theorem go_nil {p : Pnt} {x : Rat} : goQ p [] x = p.2 + (x - p.1) := rfl
theorem go_cons {p q : Pnt} {r : List Pnt} {x : Rat} : goQ p (q :: r) x = if x < q.1 then p.2 + (x - p.1) / (q.1 - p.1) * (q.2 - p.2) else goQ q r x := rfl
theorem led_cons {p : Pnt} {r : List Pnt} {x : Rat} : ledR (p :: r) x = if x < p.1 then p.2 + (x - p.1) else goQ p r x := rfl
theorem G_below {m : Rat} {p : Pnt} {bs : List Pnt} {x : Rat} (h : ∀ b ∈ bs, Blw p b) (hx : x < p.1) : G m p bs x = p.2 + (x - p.1) * m := by
  cases bs with
  | nil => rfl
  | cons b bs =>
    have h1 := (h b (by simp)).1
    have h2 : x < b.1 := by grind
    rw [G_cons, if_pos h2]
theorem seg {p q : Pnt} (h : p.1 < q.1) (x : Rat) : p.2 + (x - p.1) / (q.1 - p.1) * (q.2 - p.2) = p.2 + (x - p.1) * slp p q := by
  unfold slp
  have : q.1 - p.1 ≠ 0 := by grind
  grind
theorem led_bend {m : Rat} {p : Pnt} {r : List Pnt} (hr : Ris (p :: r)) (x : Rat) : (if x < p.1 then p.2 + (x - p.1) * m else goQ p r x) = G m p (bendR m (p :: r)) x := by
  induction r generalizing m p x with
  | nil =>
    by_cases e : m = 1
    · rw [bend_eq (by exact e), e]
      show _ = p.2 + (x - p.1) * 1
      rw [go_nil]
      split <;> grind
    · rw [bend_ne (by exact e)]
      rfl
  | cons q r ih =>
    have h2 : ∀ x, goQ p (q :: r) x = G (slp p q) p (bendR (slp p q) (q :: r)) x := by
      intro x
      have h1 := ih (m := slp p q) hr.2 x
      have ln := slp_line hr.1.1 x
      rw [go_cons, seg hr.1.1, ln, h1]
      cases bendR (slp p q) (q :: r) with
      | nil => rw [G_nil, G_nil, ln]
      | cons b bs => rw [G_cons, G_cons, ln]
    have hb : ∀ b ∈ bendR (slp p q) (q :: r), Blw p b := fun b hb => hr.all b (bend_mem hb)
    by_cases e : m = slp p q
    · rw [bend_eq (by exact e), h2 x]
      subst e
      show _ = G (slp p q) p (bendR (slp p q) (q :: r)) x
      by_cases hx : x < p.1
      · rw [if_pos hx, G_below hb hx]
      · rw [if_neg hx]
    · rw [bend_ne (by exact e), h2 x]
      show _ = G m p (p :: bendR (slp p q) (q :: r)) x
      rw [G_cons]
      by_cases hx : x < p.1
      · rw [if_pos hx, if_pos hx]
      · rw [if_neg hx, if_neg hx]
        have ho : outS p (bendR (slp p q) (q :: r)) = slp p q := bend_out hr
        generalize bendR (slp p q) (q :: r) = bs at ho hb
        cases bs with
        | nil =>
          have ho : 1 = slp p q := ho
          rw [G_nil, go_nil, ← ho]
          grind
        | cons b bs =>
          have hp := (hb b (by simp)).1
          have ho : slp p b = slp p q := ho
          rw [G_cons, go_cons, seg hp, ho]
/-- the bends alone tell the same map -/
theorem led_bends {ps : List Pnt} (hr : Ris ps) (x : Rat) : ledR (bendF ps) x = ledR ps x := by
  cases ps with
  | nil =>
    unfold bendF
    show ledR [(0, 0)] x = x
    simp only [ledR, goQ]
    grind
  | cons p r =>
    have h : ∀ x, ledR (p :: r) x = G 1 p (bendR 1 (p :: r)) x := fun x => by
      rw [← led_bend hr x]
      show (if x < p.1 then _ else _) = _
      grind
    unfold bendF
    cases e : bendR 1 (p :: r) with
    | nil =>
      rw [if_pos rfl]
      have h0 := h 0
      have hx := h x
      rw [e] at h0 hx
      rw [hx, led_cons, h0, G_nil, G_nil, go_nil]
      grind
    | cons b bs =>
      rw [if_neg (by simp)]
      have hx := h x
      rw [e] at hx
      rw [hx]
      have hl := bend_line hr e
      simp only [ledR, G]
      grind
theorem led_flat {p : Pnt} {r : List Pnt} (hr : Ris (p :: r)) (h : bendR 1 (p :: r) = []) (x : Rat) : ledR (p :: r) x = p.2 + (x - p.1) := by
  have e : ledR (p :: r) x = G 1 p (bendR 1 (p :: r)) x := by
    rw [← led_bend hr x]
    show (if x < p.1 then _ else _) = _
    grind
  rw [e, h]
  simp only [G]
  grind
theorem pace_bend {m : Rat} {l : List Pnt} (hr : Ris l) (x : Rat) : paceR m (bendR m l) x = paceR m l x := by
  induction l generalizing m with
  | nil => rfl
  | cons p r ih =>
    have h1 := ih (m := outS p r) hr.tail
    have hb : ∀ b ∈ bendR (outS p r) r, Blw p b := fun b hb => hr.all b (bend_mem hb)
    unfold bendR
    split
    · rename_i e
      subst e
      rw [h1]
      show _ = if p.1 ≤ x then paceR (outS p r) r x else outS p r
      split
      · rfl
      · rename_i hx
        rw [← h1]
        cases e : bendR (outS p r) r with
        | nil => rfl
        | cons b bs =>
          have := (hb b (by rw [e]; simp)).1
          unfold paceR
          rw [if_neg (by grind)]
    · show (if p.1 ≤ x then paceR (outS p (bendR (outS p r) r)) (bendR (outS p r) r) x else m) = if p.1 ≤ x then paceR (outS p r) r x else m
      rw [bend_out hr, h1]
theorem pace_bends {ps : List Pnt} (hr : Ris ps) (x : Rat) : paceR 1 (bendF ps) x = paceR 1 ps x := by
  rw [← pace_bend hr x]
  unfold bendF
  split
  · rename_i e
    rw [e]
    simp only [paceR, outS]
    grind
  · rfl
theorem bend_bend {m : Rat} {l : List Pnt} (hr : Ris l) : bendR m (bendR m l) = bendR m l := by
  induction l generalizing m with
  | nil => rfl
  | cons p r ih =>
    by_cases e : m = outS p r
    · rw [bend_eq e, e]
      exact ih hr.tail
    · have ho := bend_out hr
      rw [bend_ne e, bend_ne (by rw [ho]; exact e), ho, ih hr.tail]
theorem bends_bends {ps : List Pnt} (hr : Ris ps) : bendF (bendF ps) = bendF ps := by
  unfold bendF
  split
  · simp only [bendR, outS, ledR, goQ]
    simp
    grind
  · rename_i e
    rw [bend_bend hr, if_neg e]
theorem bendF_ne (ps : List Pnt) : bendF ps ≠ [] := by
  unfold bendF
  split
  · simp
  · assumption
theorem bendF_ris {ps : List Pnt} (hr : Ris ps) : Ris (bendF ps) := by
  unfold bendF
  split
  · trivial
  · exact bend_ris hr
theorem bend_cg {m : Rat} {p : Pnt} {r r' : List Pnt} (ho : outS p r = outS p r') (h : bendR (outS p r') r = bendR (outS p r') r') : bendR m (p :: r) = bendR m (p :: r') := by
  by_cases c : m = outS p r'
  · exact (bend_eq (ho ▸ c)).trans ((by rw [ho]; exact h : bendR (outS p r) r = bendR (outS p r') r').trans (bend_eq c).symm)
  · exact (bend_ne (ho ▸ c)).trans ((by rw [ho, h] : p :: bendR (outS p r) r = p :: bendR (outS p r') r').trans (bend_ne c).symm)
/-- points between -/
def midP (p q : Pnt) : Pnt := ((p.1 + q.1) / 2, (p.2 + q.2) / 2)
def finer : List Pnt → List Pnt
  | [] => []
  | [p] => [p]
  | p :: q :: r => p :: midP p q :: finer (q :: r)
theorem finer_head (q : Pnt) (r : List Pnt) : ∃ t, finer (q :: r) = q :: t := by
  cases r with
  | nil => exact ⟨_, rfl⟩
  | cons p r => exact ⟨_, rfl⟩
theorem mid_l {p q : Pnt} (h : p.1 < q.1) : slp p (midP p q) = slp p q := by
  unfold slp midP
  have : q.1 - p.1 ≠ 0 := by grind
  have : (p.1 + q.1) / 2 - p.1 ≠ 0 := by grind
  grind
theorem mid_r {p q : Pnt} (h : p.1 < q.1) : slp (midP p q) q = slp p q := by
  unfold slp midP
  have : q.1 - p.1 ≠ 0 := by grind
  have : q.1 - (p.1 + q.1) / 2 ≠ 0 := by grind
  grind
/-- with a further point behind the last, on the line of slope 1 -/
def more (l : List Pnt) (b : Bool) : List Pnt := match b, l.getLast? with
  | true, some p => l ++ [(p.1 + 3, p.2 + 3)]
  | _, _ => l
theorem more_or (l : List Pnt) (b : Bool) : more l b = l ∨ ∃ p, l.getLast? = some p ∧ more l b = l ++ [(p.1 + 3, p.2 + 3)] := by
  unfold more
  split
  · rename_i p h
    exact .inr ⟨p, h, rfl⟩
  · exact .inl rfl
theorem bend_last {m : Rat} {e : Pnt} {l : List Pnt} {p : Pnt} (hl : l.getLast? = some p) (hs : slp p e = 1) : bendR m (l ++ [e]) = bendR m l := by
  induction l generalizing m with
  | nil => cases hl
  | cons q r ih =>
    cases r with
    | nil =>
      have hl : q = p := by simpa using hl
      subst hl
      exact bend_cg (r := [e]) (r' := []) hs (bend_eq rfl)
    | cons z r =>
      exact bend_cg (r := z :: (r ++ [e])) (r' := z :: r) rfl (ih (by rw [List.getLast?_cons_cons] at hl; exact hl))
theorem bend_finer {m : Rat} {l : List Pnt} (hr : Ris l) : bendR m (finer l) = bendR m l := by
  induction l generalizing m with
  | nil => rfl
  | cons p r ih =>
    cases r with
    | nil => rfl
    | cons q r =>
      obtain ⟨t, ht⟩ := finer_head q r
      have h1 := fun m => ih (m := m) hr.2
      have hm : bendR (slp p q) (midP p q :: finer (q :: r)) = bendR (slp p q) (q :: r) := by
        rw [← h1]
        have e : slp p q = outS (midP p q) (finer (q :: r)) := by rw [ht]; exact (mid_r hr.1.1).symm
        rw [bend_eq e, ← e]
      exact bend_cg (r := midP p q :: finer (q :: r)) (r' := q :: r) (mid_l hr.1.1) hm
theorem finer_last {l : List Pnt} : (finer l).getLast? = l.getLast? := by
  induction l with
  | nil => rfl
  | cons p r ih =>
    cases r with
    | nil => rfl
    | cons q r =>
      show (p :: midP p q :: finer (q :: r)).getLast? = (p :: q :: r).getLast?
      obtain ⟨t, ht⟩ := finer_head q r
      rw [ht] at ih ⊢
      rw [List.getLast?_cons_cons, List.getLast?_cons_cons, List.getLast?_cons_cons, ih]
theorem ris_snoc {l : List Pnt} {e : Pnt} (hr : Ris l) (h : ∀ p, l.getLast? = some p → Blw p e) : Ris (l ++ [e]) := by
  induction l with
  | nil => trivial
  | cons p r ih =>
    cases r with
    | nil => exact ⟨h p rfl, trivial⟩
    | cons q r => exact ⟨hr.1, ih hr.2 fun z hz => h z (by rw [List.getLast?_cons_cons]; exact hz)⟩
theorem finer_ris {l : List Pnt} (hr : Ris l) : Ris (finer l) := by
  induction l with
  | nil => trivial
  | cons p r ih =>
    cases r with
    | nil => trivial
    | cons q r =>
      obtain ⟨t, ht⟩ := finer_head q r
      have h1 := ih hr.2
      have h2 := hr.1
      show Ris (p :: midP p q :: finer (q :: r))
      rw [ht] at h1 ⊢
      exact ⟨⟨by have := h2.1; simp only [midP]; grind, by have := h2.2; simp only [midP]; grind⟩, ⟨by have := h2.1; simp only [midP]; grind, by have := h2.2; simp only [midP]; grind⟩, h1⟩
theorem more_ris {l : List Pnt} {b : Bool} (hr : Ris l) : Ris (more l b) := by
  rcases more_or l b with e | ⟨p, hp, e⟩
  · rw [e]; exact hr
  · rw [e]
    exact ris_snoc hr fun z hz => by
      rw [hp] at hz
      cases hz
      exact ⟨by show p.1 < p.1 + 3; grind, by show p.2 < p.2 + 3; grind⟩
/-- finer points, and a further one behind, tell the same bends -/
theorem bends_finer {l : List Pnt} (b : Bool) (hr : Ris l) : bendF (more (finer l) b) = bendF l := by
  have h1 : bendR 1 (more (finer l) b) = bendR 1 l := by
    rcases more_or (finer l) b with e | ⟨p, hp, e⟩
    · rw [e]; exact bend_finer hr
    · rw [e, bend_last hp, bend_finer hr]
      unfold slp
      grind
  unfold bendF
  rw [h1]
  split
  · rename_i e
    cases l with
    | nil =>
      rcases more_or (finer []) b with e | ⟨p, hp, e⟩
      · rw [e]; rfl
      · cases hp
    | cons p r =>
      obtain ⟨t, ht⟩ := finer_head p r
      have hh : ∃ t', more (finer (p :: r)) b = p :: t' := by
        rcases more_or (finer (p :: r)) b with e | ⟨_, _, e⟩
        · rw [e, ht]; exact ⟨_, rfl⟩
        · rw [e, ht]; exact ⟨_, rfl⟩
      obtain ⟨t', ht'⟩ := hh
      have hrm := more_ris (b := b) (finer_ris hr)
      rw [ht'] at hrm h1 ⊢
      rw [led_flat hr e, led_flat hrm (h1.trans e)]
  · rfl
theorem bend_has {m : Rat} {e : Pnt} {l : List Pnt} {p : Pnt} (hl : l.getLast? = some p) (hs : slp p e ≠ 1) : e ∈ bendR m (l ++ [e]) := by
  induction l generalizing m with
  | nil => cases hl
  | cons q r ih =>
    cases r with
    | nil =>
      have hl : q = p := by simpa using hl
      subst hl
      have e1 : bendR (slp q e) [e] = [e] := bend_ne (by exact hs)
      show e ∈ bendR m (q :: [e])
      by_cases c : m = slp q e
      · rw [bend_eq (by exact c)]
        show e ∈ bendR (slp q e) [e]
        rw [e1]
        simp
      · rw [bend_ne (by exact c)]
        show e ∈ q :: bendR (slp q e) [e]
        rw [e1]
        simp
    | cons z r =>
      have h1 := fun m => ih (m := m) (by rw [List.getLast?_cons_cons] at hl; exact hl)
      show e ∈ bendR m (q :: z :: (r ++ [e]))
      by_cases c : m = slp q z
      · rw [bend_eq (by exact c)]
        exact h1 _
      · rw [bend_ne (by exact c)]
        exact List.mem_cons_of_mem _ (h1 _)
theorem ris_last {l : List Pnt} {p : Pnt} (hr : Ris l) (hl : l.getLast? = some p) : ∀ q ∈ l, q.1 ≤ p.1 := by
  induction l with
  | nil => cases hl
  | cons z r ih =>
    intro q hq
    cases r with
    | nil =>
      have hl : z = p := by simpa using hl
      have hq : q = z := by simpa using hq
      subst hl hq
      exact Rat.le_refl
    | cons y r =>
      have hl : (y :: r).getLast? = some p := by rw [List.getLast?_cons_cons] at hl; exact hl
      have h1 := ih hr.2 hl
      rcases List.mem_cons.mp hq with rfl | hq
      · have h2 := h1 y (by simp)
        have h3 := hr.1.1
        grind
      · exact h1 q hq
/-- a bent map differs -/
theorem bent_ne {bs : List Pnt} {p : Pnt} (hr : Ris bs) (hl : bs.getLast? = some p) : bendF (bs ++ [(p.1 + 1, p.2 + 3 / 2)]) ≠ bs := by
  intro h
  have hm : (p.1 + 1, p.2 + 3 / 2) ∈ bendR 1 (bs ++ [(p.1 + 1, p.2 + 3 / 2)]) := bend_has hl (by unfold slp; grind)
  have hb : (p.1 + 1, p.2 + 3 / 2) ∈ bs := by
    rw [← h]
    unfold bendF
    rw [if_neg (fun z => by rw [z] at hm; cases hm)]
    exact hm
  have := ris_last hr hl _ hb
  grind
end PL

set_option maxHeartbeats 4000000
namespace PL
theorem ris_repl : ∀ {l1 l2 : List Pnt} {p p' : Pnt}, Ris (l1 ++ p :: l2) → (∀ q, l1.getLast? = some q → Blw q p') → p'.1 ≤ p.1 → p'.2 ≤ p.2 → Ris (l1 ++ p' :: l2)
  | [], l2, p, p', h, _, h1, h2 => by
    refine ris_of (fun q hq => ?_) h.tail
    have := Ris.all h q hq
    exact ⟨by have := this.1; grind, by have := this.2; grind⟩
  | [a], l2, p, p', h, hl, h1, h2 => ⟨hl a rfl, ris_repl (l1 := []) h.2 (fun _ z => nomatch z) h1 h2⟩
  | a :: b :: l1, l2, p, p', h, hl, h1, h2 => ⟨h.1, ris_repl (l1 := b :: l1) h.2 (fun q hq => hl q (by rw [List.getLast?_cons_cons]; exact hq)) h1 h2⟩
theorem ris_map {l : List Pnt} {a b : Rat} (h : Ris l) : Ris (l.map fun p => (p.1 + a, p.2 + b)) := by
  induction l with
  | nil => trivial
  | cons p r ih =>
    cases r with
    | nil => trivial
    | cons q r => exact ⟨⟨by have := h.1.1; show p.1 + a < q.1 + a; grind, by have := h.1.2; show p.2 + b < q.2 + b; grind⟩, ih h.2⟩
theorem ris_before {l1 l2 : List Pnt} {p q : Pnt} (h : Ris (l1 ++ p :: l2)) (hl : l1.getLast? = some q) : Blw q p := by
  induction l1 with
  | nil => cases hl
  | cons a r ih =>
    cases r with
    | nil =>
      have : a = q := by simpa using hl
      subst this
      exact h.1
    | cons b r => exact ih h.2 (by rw [List.getLast?_cons_cons] at hl; exact hl)
end PL

set_option maxHeartbeats 4000000
namespace K08
open PySem PySem.Spec PyProof.Rows L2 AT
/-! the text by places -/
def top (i : Nat) : Stmt := PySem.Challenge.pw_anytempo_k08_maps_told.main.body.getD i (.Pass ⟨0, 0, 0, 0⟩)
abbrev s__wall : Stmt := top 0
abbrev s_InvalidInteger_init_ : Stmt := inClass (top 3) 0
def d_InvalidInteger_init_ : FD := fdOf (fun K => He.ma K (He.ga K "InvalidInteger") "__init__") "__init__" "InvalidInteger.__init__" s_InvalidInteger_init_
abbrev s_InvalidAmount_init_ : Stmt := inClass (top 4) 0
def d_InvalidAmount_init_ : FD := fdOf (fun K => He.ma K (He.ga K "InvalidAmount") "__init__") "__init__" "InvalidAmount.__init__" s_InvalidAmount_init_
abbrev s_InvalidPart_init_ : Stmt := inClass (top 5) 0
def d_InvalidPart_init_ : FD := fdOf (fun K => He.ma K (He.ga K "InvalidPart") "__init__") "__init__" "InvalidPart.__init__" s_InvalidPart_init_
abbrev s_InvalidPoint_init_ : Stmt := inClass (top 6) 0
def d_InvalidPoint_init_ : FD := fdOf (fun K => He.ma K (He.ga K "InvalidPoint") "__init__") "__init__" "InvalidPoint.__init__" s_InvalidPoint_init_
abbrev s_Falling_init_ : Stmt := inClass (top 7) 0
def d_Falling_init_ : FD := fdOf (fun K => He.ma K (He.ga K "Falling") "__init__") "__init__" "Falling.__init__" s_Falling_init_
abbrev s_is_whole : Stmt := top 9
def d_is_whole : FD := fdOf (fun K => He.ga K "is_whole") "is_whole" "is_whole" s_is_whole
abbrev s_is_list : Stmt := top 10
def d_is_list : FD := fdOf (fun K => He.ga K "is_list") "is_list" "is_list" s_is_list
abbrev s_is_row : Stmt := top 11
def d_is_row : FD := fdOf (fun K => He.ga K "is_row") "is_row" "is_row" s_is_row
abbrev s_common_factor : Stmt := top 13
def d_common_factor : FD := fdOf (fun K => He.ga K "common_factor") "common_factor" "common_factor" s_common_factor
abbrev s_Amount_init_ : Stmt := inClass (top 14) 0
def d_Amount_init_ : FD := fdOf (fun K => He.ma K (He.ga K "Amount") "__init__") "__init__" "Amount.__init__" s_Amount_init_ [.int 1]
abbrev s_Amount_top : Stmt := inClass (top 14) 1
def d_Amount_top : FD := fdOf (propAt "Amount" "top") "top" "Amount.top" s_Amount_top
abbrev s_Amount_bottom : Stmt := inClass (top 14) 2
def d_Amount_bottom : FD := fdOf (propAt "Amount" "bottom") "bottom" "Amount.bottom" s_Amount_bottom
abbrev s_Amount_eq_ : Stmt := inClass (top 14) 3
def d_Amount_eq_ : FD := fdOf (fun K => He.ma K (He.ga K "Amount") "__eq__") "__eq__" "Amount.__eq__" s_Amount_eq_
abbrev s_Amount_add_ : Stmt := inClass (top 14) 4
def d_Amount_add_ : FD := fdOf (fun K => He.ma K (He.ga K "Amount") "__add__") "__add__" "Amount.__add__" s_Amount_add_
abbrev s_Amount_sub_ : Stmt := inClass (top 14) 5
def d_Amount_sub_ : FD := fdOf (fun K => He.ma K (He.ga K "Amount") "__sub__") "__sub__" "Amount.__sub__" s_Amount_sub_
abbrev s_Amount_mul_ : Stmt := inClass (top 14) 6
def d_Amount_mul_ : FD := fdOf (fun K => He.ma K (He.ga K "Amount") "__mul__") "__mul__" "Amount.__mul__" s_Amount_mul_
abbrev s_Amount_divided : Stmt := inClass (top 14) 7
def d_Amount_divided : FD := fdOf (fun K => He.ma K (He.ga K "Amount") "divided") "divided" "Amount.divided" s_Amount_divided
abbrev s_Amount_neg_ : Stmt := inClass (top 14) 8
def d_Amount_neg_ : FD := fdOf (fun K => He.ma K (He.ga K "Amount") "__neg__") "__neg__" "Amount.__neg__" s_Amount_neg_
abbrev s_Amount_abs_ : Stmt := inClass (top 14) 9
def d_Amount_abs_ : FD := fdOf (fun K => He.ma K (He.ga K "Amount") "__abs__") "__abs__" "Amount.__abs__" s_Amount_abs_
abbrev s_Amount_compare : Stmt := inClass (top 14) 10
def d_Amount_compare : FD := fdOf (fun K => He.ma K (He.ga K "Amount") "compare") "compare" "Amount.compare" s_Amount_compare
abbrev s_is_amount : Stmt := top 15
def d_is_amount : FD := fdOf (fun K => He.ga K "is_amount") "is_amount" "is_amount" s_is_amount
abbrev s_amount_from : Stmt := top 16
def d_amount_from : FD := fdOf (fun K => He.ga K "amount_from") "amount_from" "amount_from" s_amount_from
abbrev s_checked_points : Stmt := top 19
def d_checked_points : FD := fdOf (fun K => He.ga K "checked_points") "checked_points" "checked_points" s_checked_points
abbrev s_slope : Stmt := top 20
def d_slope : FD := fdOf (fun K => He.ga K "slope") "slope" "slope" s_slope
abbrev s_led : Stmt := top 21
def d_led : FD := fdOf (fun K => He.ga K "led") "led" "led" s_led
abbrev s_paces : Stmt := top 22
def d_paces : FD := fdOf (fun K => He.ga K "paces") "paces" "paces" s_paces
abbrev s_bends : Stmt := top 23
def d_bends : FD := fdOf (fun K => He.ga K "bends") "bends" "bends" s_bends
abbrev s_TempoMap_init_ : Stmt := inClass (top 24) 0
def d_TempoMap_init_ : FD := fdOf (fun K => He.ma K (He.ga K "TempoMap") "__init__") "__init__" "TempoMap.__init__" s_TempoMap_init_ [.adr (dflA (fun K => He.ma K (He.ga K "TempoMap") "__init__") 0)]
abbrev s_TempoMap_call_ : Stmt := inClass (top 24) 1
def d_TempoMap_call_ : FD := fdOf (fun K => He.ma K (He.ga K "TempoMap") "__call__") "__call__" "TempoMap.__call__" s_TempoMap_call_
abbrev s_TempoMap_beat_of : Stmt := inClass (top 24) 2
def d_TempoMap_beat_of : FD := fdOf (fun K => He.ma K (He.ga K "TempoMap") "beat_of") "beat_of" "TempoMap.beat_of" s_TempoMap_beat_of
abbrev s_TempoMap_pace : Stmt := inClass (top 24) 3
def d_TempoMap_pace : FD := fdOf (fun K => He.ma K (He.ga K "TempoMap") "pace") "pace" "TempoMap.pace" s_TempoMap_pace
abbrev s_TempoMap_points : Stmt := inClass (top 24) 4
def d_TempoMap_points : FD := fdOf (fun K => He.ma K (He.ga K "TempoMap") "points") "points" "TempoMap.points" s_TempoMap_points
abbrev s_TempoMap_inverse : Stmt := inClass (top 24) 5
def d_TempoMap_inverse : FD := fdOf (fun K => He.ma K (He.ga K "TempoMap") "inverse") "inverse" "TempoMap.inverse" s_TempoMap_inverse
abbrev s_TempoMap_then : Stmt := inClass (top 24) 6
def d_TempoMap_then : FD := fdOf (fun K => He.ma K (He.ga K "TempoMap") "then") "then" "TempoMap.then" s_TempoMap_then
abbrev s_TempoMap_eq_ : Stmt := inClass (top 24) 7
def d_TempoMap_eq_ : FD := fdOf (fun K => He.ma K (He.ga K "TempoMap") "__eq__") "__eq__" "TempoMap.__eq__" s_TempoMap_eq_
abbrev s_w_cell : Stmt := top 26
def d_w_cell : FD := fdOf (fun K => He.ga K "_law_cell") "_law_cell" "_law_cell" s_w_cell
abbrev s_w_bag : Stmt := top 27
def d_w_bag : FD := fdOf (fun K => He.ga K "_law_bag") "_law_bag" "_law_bag" s_w_bag
abbrev s_w_take : Stmt := top 28
def d_w_take : FD := fdOf (fun K => He.ga K "_law_take") "_law_take" "_law_take" s_w_take
abbrev s_w_frac : Stmt := top 29
def d_w_frac : FD := fdOf (fun K => He.ga K "_law_frac") "_law_frac" "_law_frac" s_w_frac
abbrev s_w_sum : Stmt := top 30
def d_w_sum : FD := fdOf (fun K => He.ga K "_law_sum") "_law_sum" "_law_sum" s_w_sum
abbrev s_w_less : Stmt := top 31
def d_w_less : FD := fdOf (fun K => He.ga K "_law_less") "_law_less" "_law_less" s_w_less
abbrev s_w_rest : Stmt := top 32
def d_w_rest : FD := fdOf (fun K => He.ga K "_law_rest") "_law_rest" "_law_rest" s_w_rest
abbrev s_w_product : Stmt := top 33
def d_w_product : FD := fdOf (fun K => He.ga K "_law_product") "_law_product" "_law_product" s_w_product
abbrev s_w_quotient : Stmt := top 34
def d_w_quotient : FD := fdOf (fun K => He.ga K "_law_quotient") "_law_quotient" "_law_quotient" s_w_quotient
abbrev s_w_fraction : Stmt := top 35
def d_w_fraction : FD := fdOf (fun K => He.ga K "_law_fraction") "_law_fraction" "_law_fraction" s_w_fraction
abbrev s_w_step : Stmt := top 36
def d_w_step : FD := fdOf (fun K => He.ga K "_law_step") "_law_step" "_law_step" s_w_step
abbrev s_w_given : Stmt := top 37
def d_w_given : FD := fdOf (fun K => He.ga K "_law_given") "_law_given" "_law_given" s_w_given
abbrev s_w_points : Stmt := top 38
def d_w_points : FD := fdOf (fun K => He.ga K "_law_points") "_law_points" "_law_points" s_w_points
abbrev s_w_led : Stmt := top 39
def d_w_led : FD := fdOf (fun K => He.ga K "_law_led") "_law_led" "_law_led" s_w_led
abbrev s_w_paces : Stmt := top 40
def d_w_paces : FD := fdOf (fun K => He.ga K "_law_paces") "_law_paces" "_law_paces" s_w_paces
abbrev s_w_bends : Stmt := top 41
def d_w_bends : FD := fdOf (fun K => He.ga K "_law_bends") "_law_bends" "_law_bends" s_w_bends
abbrev s_w_pair : Stmt := top 42
def d_w_pair : FD := fdOf (fun K => He.ga K "_law_pair") "_law_pair" "_law_pair" s_w_pair
abbrev s_w_pairs : Stmt := top 43
def d_w_pairs : FD := fdOf (fun K => He.ga K "_law_pairs") "_law_pairs" "_law_pairs" s_w_pairs
abbrev s_w_asked : Stmt := top 44
def d_w_asked : FD := fdOf (fun K => He.ga K "_law_asked") "_law_asked" "_law_asked" s_w_asked
abbrev s_w_right : Stmt := top 45
def d_w_right : FD := fdOf (fun K => He.ga K "_law_right") "_law_right" "_law_right" s_w_right
abbrev s_w_finer : Stmt := top 46
def d_w_finer : FD := fdOf (fun K => He.ga K "_law_finer") "_law_finer" "_law_finer" s_w_finer
abbrev s_w_others_right : Stmt := top 47
def d_w_others_right : FD := fdOf (fun K => He.ga K "_law_others_right") "_law_others_right" "_law_others_right" s_w_others_right
abbrev s_law : Stmt := top 48
def d_law : FD := fdOf (fun K => He.ga K "law") "law" "law" s_law
def fn : List FD := [d_InvalidInteger_init_, d_InvalidAmount_init_, d_InvalidPart_init_, d_InvalidPoint_init_, d_Falling_init_, d_is_whole, d_is_list, d_is_row, d_common_factor, d_Amount_init_, d_Amount_top, d_Amount_bottom, d_Amount_eq_, d_Amount_add_, d_Amount_sub_, d_Amount_mul_, d_Amount_divided, d_Amount_neg_, d_Amount_abs_, d_Amount_compare, d_is_amount, d_amount_from, d_checked_points, d_slope, d_led, d_paces, d_bends, d_TempoMap_init_, d_TempoMap_call_, d_TempoMap_beat_of, d_TempoMap_pace, d_TempoMap_points, d_TempoMap_inverse, d_TempoMap_then, d_TempoMap_eq_, d_w_cell, d_w_bag, d_w_take, d_w_frac, d_w_sum, d_w_less, d_w_rest, d_w_product, d_w_quotient, d_w_fraction, d_w_step, d_w_given, d_w_points, d_w_led, d_w_paces, d_w_bends, d_w_pair, d_w_pairs, d_w_asked, d_w_right, d_w_finer, d_w_others_right, d_law]
def ex : Ex := [
  gloB "is_whole",
  gloB "is_list",
  gloB "is_row",
  gloB "common_factor",
  gloB "is_amount",
  gloB "amount_from",
  gloB "checked_points",
  gloB "slope",
  gloB "led",
  gloB "paces",
  gloB "bends",
  gloB "_law_cell",
  gloB "_law_bag",
  gloB "_law_take",
  gloB "_law_frac",
  gloB "_law_sum",
  gloB "_law_less",
  gloB "_law_rest",
  gloB "_law_product",
  gloB "_law_quotient",
  gloB "_law_fraction",
  gloB "_law_step",
  gloB "_law_given",
  gloB "_law_points",
  gloB "_law_led",
  gloB "_law_paces",
  gloB "_law_bends",
  gloB "_law_pair",
  gloB "_law_pairs",
  gloB "_law_asked",
  gloB "_law_right",
  gloB "_law_finer",
  gloB "_law_others_right",
  gloB "law",
  gloB "CueError",
  gloB "InvalidInteger",
  gloB "InvalidAmount",
  gloB "InvalidPart",
  gloB "InvalidPoint",
  gloB "Falling",
  gloB "Amount",
  gloB "TempoMap",
  freeB "NotImplemented",
  freeB "ValueError",
  freeB "abs",
  freeB "bool",
  freeB "enumerate",
  freeB "int",
  freeB "isinstance",
  freeB "len",
  freeB "list",
  freeB "max",
  freeB "min",
  freeB "property",
  freeB "range",
  freeB "tuple",
  freeB "zip",
  conB "ONE" (.int 1),
  clsB "Amount",
  mkrB "Amount",
  insB "Amount",
  methB "Amount" "__init__",
  methB "Amount" "__eq__",
  methB "Amount" "__add__",
  methB "Amount" "__sub__",
  methB "Amount" "__mul__",
  methB "Amount" "divided",
  methB "Amount" "__neg__",
  methB "Amount" "__abs__",
  methB "Amount" "compare",
  noatB "Amount" "own_top",
  noatB "Amount" "own_bottom",
  propB "Amount" "top",
  propB "Amount" "bottom",
  kitB (fun _ => .type "NoneType") (fun K => .ref (He.ga K "Amount")) false,
  kitB (fun _ => .type "bool") (fun K => .ref (He.ga K "Amount")) false,
  kitB (fun _ => .type "int") (fun K => .ref (He.ga K "Amount")) false,
  kitB (fun _ => .type "str") (fun K => .ref (He.ga K "Amount")) false,
  kitB (fun _ => .type "list") (fun K => .ref (He.ga K "Amount")) false,
  kitB (fun _ => .type "tuple") (fun K => .ref (He.ga K "Amount")) false,
  kitB (fun _ => .type "dict") (fun K => .ref (He.ga K "Amount")) false,
  kitB (fun K => .ref (He.ga K "Amount")) (fun K => .ref (He.ga K "Amount")) true,
  kitB (fun K => .ref (He.ga K "Amount")) (fun _ => .type "bool") false,
  kitB (fun K => .ref (He.ga K "Amount")) (fun _ => .type "int") false,
  kitB (fun K => .ref (He.ga K "Amount")) (fun _ => .type "str") false,
  kitB (fun K => .ref (He.ga K "Amount")) (fun _ => .type "list") false,
  kitB (fun K => .ref (He.ga K "Amount")) (fun _ => .type "tuple") false,
  kitB (fun K => .ref (He.ga K "Amount")) (fun _ => .type "dict") false,
  clsB "TempoMap",
  mkrB "TempoMap",
  insB "TempoMap",
  methB "TempoMap" "__init__",
  methB "TempoMap" "__call__",
  methB "TempoMap" "beat_of",
  methB "TempoMap" "pace",
  methB "TempoMap" "points",
  methB "TempoMap" "inverse",
  methB "TempoMap" "then",
  methB "TempoMap" "__eq__",
  noatB "TempoMap" "own_points",
  kitB (fun _ => .type "NoneType") (fun K => .ref (He.ga K "TempoMap")) false,
  kitB (fun _ => .type "bool") (fun K => .ref (He.ga K "TempoMap")) false,
  kitB (fun _ => .type "int") (fun K => .ref (He.ga K "TempoMap")) false,
  kitB (fun _ => .type "str") (fun K => .ref (He.ga K "TempoMap")) false,
  kitB (fun _ => .type "list") (fun K => .ref (He.ga K "TempoMap")) false,
  kitB (fun _ => .type "tuple") (fun K => .ref (He.ga K "TempoMap")) false,
  kitB (fun _ => .type "dict") (fun K => .ref (He.ga K "TempoMap")) false,
  kitB (fun K => .ref (He.ga K "TempoMap")) (fun K => .ref (He.ga K "TempoMap")) true,
  kitB (fun K => .ref (He.ga K "TempoMap")) (fun _ => .type "bool") false,
  kitB (fun K => .ref (He.ga K "TempoMap")) (fun _ => .type "int") false,
  kitB (fun K => .ref (He.ga K "TempoMap")) (fun _ => .type "str") false,
  kitB (fun K => .ref (He.ga K "TempoMap")) (fun _ => .type "list") false,
  kitB (fun K => .ref (He.ga K "TempoMap")) (fun _ => .type "tuple") false,
  kitB (fun K => .ref (He.ga K "TempoMap")) (fun _ => .type "dict") false,
  fun K => baB K "CueError",
  fun K => xcB K "InvalidInteger" "value",
  fun K => xcB K "InvalidAmount" "value",
  fun K => xcB K "InvalidPart" "value",
  fun K => xcB K "InvalidPoint" "value",
  fun K => xcB K "Falling" "index",
  exmB "InvalidInteger" "InvalidInteger" true,
  exmB "InvalidInteger" "InvalidAmount" false,
  exmB "InvalidInteger" "InvalidPart" false,
  exmB "InvalidInteger" "InvalidPoint" false,
  exmB "InvalidInteger" "Falling" false,
  exmB "InvalidAmount" "InvalidInteger" false,
  exmB "InvalidAmount" "InvalidAmount" true,
  exmB "InvalidAmount" "InvalidPart" false,
  exmB "InvalidAmount" "InvalidPoint" false,
  exmB "InvalidAmount" "Falling" false,
  exmB "InvalidPart" "InvalidInteger" false,
  exmB "InvalidPart" "InvalidAmount" false,
  exmB "InvalidPart" "InvalidPart" true,
  exmB "InvalidPart" "InvalidPoint" false,
  exmB "InvalidPart" "Falling" false,
  exmB "InvalidPoint" "InvalidInteger" false,
  exmB "InvalidPoint" "InvalidAmount" false,
  exmB "InvalidPoint" "InvalidPart" false,
  exmB "InvalidPoint" "InvalidPoint" true,
  exmB "InvalidPoint" "Falling" false,
  exmB "Falling" "InvalidInteger" false,
  exmB "Falling" "InvalidAmount" false,
  exmB "Falling" "InvalidPart" false,
  exmB "Falling" "InvalidPoint" false,
  exmB "Falling" "Falling" true,
  excsB "InvalidInteger",
  kitB (fun K => .ref (He.ga K "InvalidInteger")) (fun K => .ref (He.ga K "CueError")) true,
  excsB "InvalidAmount",
  kitB (fun K => .ref (He.ga K "InvalidAmount")) (fun K => .ref (He.ga K "CueError")) true,
  excsB "InvalidPart",
  kitB (fun K => .ref (He.ga K "InvalidPart")) (fun K => .ref (He.ga K "CueError")) true,
  excsB "InvalidPoint",
  kitB (fun K => .ref (He.ga K "InvalidPoint")) (fun K => .ref (He.ga K "CueError")) true,
  excsB "Falling",
  kitB (fun K => .ref (He.ga K "Falling")) (fun K => .ref (He.ga K "CueError")) true,
  tup0B (dflA (fun K => He.ma K (He.ga K "TempoMap") "__init__") 0),
  eqcB "Amount",
  opcB "Amount" "__add__" "add",
  opcB "Amount" "__sub__" "sub",
  opcB "Amount" "__mul__" "mul",
  coB "TempoMap",
  eqcB "TempoMap",
  sysB]
structure Tx (K : PySem.W.Frag) (mg : Str → Option Value) (base : Heap) : Prop where
  says : SaysA fn ex K
  kin : K.In base
  ns : base.Ns mainGlobals mg
section
variable {K : PySem.W.Frag} {mg : Str → Option Value} {base : Heap}
theorem Tx.g_is_whole (T : Tx K mg base) : mg "is_whole" = some (.ref (He.ga K "is_whole")) := PySem.W.mg_of T.kin T.ns (He.eqO_ok (T.says.more 0 (e := gloB "is_whole") rfl))
theorem Tx.g_is_list (T : Tx K mg base) : mg "is_list" = some (.ref (He.ga K "is_list")) := PySem.W.mg_of T.kin T.ns (He.eqO_ok (T.says.more 1 (e := gloB "is_list") rfl))
theorem Tx.g_is_row (T : Tx K mg base) : mg "is_row" = some (.ref (He.ga K "is_row")) := PySem.W.mg_of T.kin T.ns (He.eqO_ok (T.says.more 2 (e := gloB "is_row") rfl))
theorem Tx.g_common_factor (T : Tx K mg base) : mg "common_factor" = some (.ref (He.ga K "common_factor")) := PySem.W.mg_of T.kin T.ns (He.eqO_ok (T.says.more 3 (e := gloB "common_factor") rfl))
theorem Tx.g_is_amount (T : Tx K mg base) : mg "is_amount" = some (.ref (He.ga K "is_amount")) := PySem.W.mg_of T.kin T.ns (He.eqO_ok (T.says.more 4 (e := gloB "is_amount") rfl))
theorem Tx.g_amount_from (T : Tx K mg base) : mg "amount_from" = some (.ref (He.ga K "amount_from")) := PySem.W.mg_of T.kin T.ns (He.eqO_ok (T.says.more 5 (e := gloB "amount_from") rfl))
theorem Tx.g_checked_points (T : Tx K mg base) : mg "checked_points" = some (.ref (He.ga K "checked_points")) := PySem.W.mg_of T.kin T.ns (He.eqO_ok (T.says.more 6 (e := gloB "checked_points") rfl))
theorem Tx.g_slope (T : Tx K mg base) : mg "slope" = some (.ref (He.ga K "slope")) := PySem.W.mg_of T.kin T.ns (He.eqO_ok (T.says.more 7 (e := gloB "slope") rfl))
theorem Tx.g_led (T : Tx K mg base) : mg "led" = some (.ref (He.ga K "led")) := PySem.W.mg_of T.kin T.ns (He.eqO_ok (T.says.more 8 (e := gloB "led") rfl))
theorem Tx.g_paces (T : Tx K mg base) : mg "paces" = some (.ref (He.ga K "paces")) := PySem.W.mg_of T.kin T.ns (He.eqO_ok (T.says.more 9 (e := gloB "paces") rfl))
theorem Tx.g_bends (T : Tx K mg base) : mg "bends" = some (.ref (He.ga K "bends")) := PySem.W.mg_of T.kin T.ns (He.eqO_ok (T.says.more 10 (e := gloB "bends") rfl))
theorem Tx.g_w_cell (T : Tx K mg base) : mg "_law_cell" = some (.ref (He.ga K "_law_cell")) := PySem.W.mg_of T.kin T.ns (He.eqO_ok (T.says.more 11 (e := gloB "_law_cell") rfl))
theorem Tx.g_w_bag (T : Tx K mg base) : mg "_law_bag" = some (.ref (He.ga K "_law_bag")) := PySem.W.mg_of T.kin T.ns (He.eqO_ok (T.says.more 12 (e := gloB "_law_bag") rfl))
theorem Tx.g_w_take (T : Tx K mg base) : mg "_law_take" = some (.ref (He.ga K "_law_take")) := PySem.W.mg_of T.kin T.ns (He.eqO_ok (T.says.more 13 (e := gloB "_law_take") rfl))
theorem Tx.g_w_frac (T : Tx K mg base) : mg "_law_frac" = some (.ref (He.ga K "_law_frac")) := PySem.W.mg_of T.kin T.ns (He.eqO_ok (T.says.more 14 (e := gloB "_law_frac") rfl))
theorem Tx.g_w_sum (T : Tx K mg base) : mg "_law_sum" = some (.ref (He.ga K "_law_sum")) := PySem.W.mg_of T.kin T.ns (He.eqO_ok (T.says.more 15 (e := gloB "_law_sum") rfl))
theorem Tx.g_w_less (T : Tx K mg base) : mg "_law_less" = some (.ref (He.ga K "_law_less")) := PySem.W.mg_of T.kin T.ns (He.eqO_ok (T.says.more 16 (e := gloB "_law_less") rfl))
theorem Tx.g_w_rest (T : Tx K mg base) : mg "_law_rest" = some (.ref (He.ga K "_law_rest")) := PySem.W.mg_of T.kin T.ns (He.eqO_ok (T.says.more 17 (e := gloB "_law_rest") rfl))
theorem Tx.g_w_product (T : Tx K mg base) : mg "_law_product" = some (.ref (He.ga K "_law_product")) := PySem.W.mg_of T.kin T.ns (He.eqO_ok (T.says.more 18 (e := gloB "_law_product") rfl))
theorem Tx.g_w_quotient (T : Tx K mg base) : mg "_law_quotient" = some (.ref (He.ga K "_law_quotient")) := PySem.W.mg_of T.kin T.ns (He.eqO_ok (T.says.more 19 (e := gloB "_law_quotient") rfl))
theorem Tx.g_w_fraction (T : Tx K mg base) : mg "_law_fraction" = some (.ref (He.ga K "_law_fraction")) := PySem.W.mg_of T.kin T.ns (He.eqO_ok (T.says.more 20 (e := gloB "_law_fraction") rfl))
theorem Tx.g_w_step (T : Tx K mg base) : mg "_law_step" = some (.ref (He.ga K "_law_step")) := PySem.W.mg_of T.kin T.ns (He.eqO_ok (T.says.more 21 (e := gloB "_law_step") rfl))
theorem Tx.g_w_given (T : Tx K mg base) : mg "_law_given" = some (.ref (He.ga K "_law_given")) := PySem.W.mg_of T.kin T.ns (He.eqO_ok (T.says.more 22 (e := gloB "_law_given") rfl))
theorem Tx.g_w_points (T : Tx K mg base) : mg "_law_points" = some (.ref (He.ga K "_law_points")) := PySem.W.mg_of T.kin T.ns (He.eqO_ok (T.says.more 23 (e := gloB "_law_points") rfl))
theorem Tx.g_w_led (T : Tx K mg base) : mg "_law_led" = some (.ref (He.ga K "_law_led")) := PySem.W.mg_of T.kin T.ns (He.eqO_ok (T.says.more 24 (e := gloB "_law_led") rfl))
theorem Tx.g_w_paces (T : Tx K mg base) : mg "_law_paces" = some (.ref (He.ga K "_law_paces")) := PySem.W.mg_of T.kin T.ns (He.eqO_ok (T.says.more 25 (e := gloB "_law_paces") rfl))
theorem Tx.g_w_bends (T : Tx K mg base) : mg "_law_bends" = some (.ref (He.ga K "_law_bends")) := PySem.W.mg_of T.kin T.ns (He.eqO_ok (T.says.more 26 (e := gloB "_law_bends") rfl))
theorem Tx.g_w_pair (T : Tx K mg base) : mg "_law_pair" = some (.ref (He.ga K "_law_pair")) := PySem.W.mg_of T.kin T.ns (He.eqO_ok (T.says.more 27 (e := gloB "_law_pair") rfl))
theorem Tx.g_w_pairs (T : Tx K mg base) : mg "_law_pairs" = some (.ref (He.ga K "_law_pairs")) := PySem.W.mg_of T.kin T.ns (He.eqO_ok (T.says.more 28 (e := gloB "_law_pairs") rfl))
theorem Tx.g_w_asked (T : Tx K mg base) : mg "_law_asked" = some (.ref (He.ga K "_law_asked")) := PySem.W.mg_of T.kin T.ns (He.eqO_ok (T.says.more 29 (e := gloB "_law_asked") rfl))
theorem Tx.g_w_right (T : Tx K mg base) : mg "_law_right" = some (.ref (He.ga K "_law_right")) := PySem.W.mg_of T.kin T.ns (He.eqO_ok (T.says.more 30 (e := gloB "_law_right") rfl))
theorem Tx.g_w_finer (T : Tx K mg base) : mg "_law_finer" = some (.ref (He.ga K "_law_finer")) := PySem.W.mg_of T.kin T.ns (He.eqO_ok (T.says.more 31 (e := gloB "_law_finer") rfl))
theorem Tx.g_w_others_right (T : Tx K mg base) : mg "_law_others_right" = some (.ref (He.ga K "_law_others_right")) := PySem.W.mg_of T.kin T.ns (He.eqO_ok (T.says.more 32 (e := gloB "_law_others_right") rfl))
theorem Tx.g_law (T : Tx K mg base) : mg "law" = some (.ref (He.ga K "law")) := PySem.W.mg_of T.kin T.ns (He.eqO_ok (T.says.more 33 (e := gloB "law") rfl))
theorem Tx.g_CueError (T : Tx K mg base) : mg "CueError" = some (.ref (He.ga K "CueError")) := PySem.W.mg_of T.kin T.ns (He.eqO_ok (T.says.more 34 (e := gloB "CueError") rfl))
theorem Tx.g_InvalidInteger (T : Tx K mg base) : mg "InvalidInteger" = some (.ref (He.ga K "InvalidInteger")) := PySem.W.mg_of T.kin T.ns (He.eqO_ok (T.says.more 35 (e := gloB "InvalidInteger") rfl))
theorem Tx.g_InvalidAmount (T : Tx K mg base) : mg "InvalidAmount" = some (.ref (He.ga K "InvalidAmount")) := PySem.W.mg_of T.kin T.ns (He.eqO_ok (T.says.more 36 (e := gloB "InvalidAmount") rfl))
theorem Tx.g_InvalidPart (T : Tx K mg base) : mg "InvalidPart" = some (.ref (He.ga K "InvalidPart")) := PySem.W.mg_of T.kin T.ns (He.eqO_ok (T.says.more 37 (e := gloB "InvalidPart") rfl))
theorem Tx.g_InvalidPoint (T : Tx K mg base) : mg "InvalidPoint" = some (.ref (He.ga K "InvalidPoint")) := PySem.W.mg_of T.kin T.ns (He.eqO_ok (T.says.more 38 (e := gloB "InvalidPoint") rfl))
theorem Tx.g_Falling (T : Tx K mg base) : mg "Falling" = some (.ref (He.ga K "Falling")) := PySem.W.mg_of T.kin T.ns (He.eqO_ok (T.says.more 39 (e := gloB "Falling") rfl))
theorem Tx.g_Amount (T : Tx K mg base) : mg "Amount" = some (.ref (He.ga K "Amount")) := PySem.W.mg_of T.kin T.ns (He.eqO_ok (T.says.more 40 (e := gloB "Amount") rfl))
theorem Tx.g_TempoMap (T : Tx K mg base) : mg "TempoMap" = some (.ref (He.ga K "TempoMap")) := PySem.W.mg_of T.kin T.ns (He.eqO_ok (T.says.more 41 (e := gloB "TempoMap") rfl))
theorem Tx.b_NotImplemented (T : Tx K mg base) : mg "NotImplemented" = none := PySem.W.mg_none_of T.kin T.ns (He.eqO_ok (T.says.more 42 (e := freeB "NotImplemented") rfl))
theorem Tx.b_ValueError (T : Tx K mg base) : mg "ValueError" = none := PySem.W.mg_none_of T.kin T.ns (He.eqO_ok (T.says.more 43 (e := freeB "ValueError") rfl))
theorem Tx.b_abs (T : Tx K mg base) : mg "abs" = none := PySem.W.mg_none_of T.kin T.ns (He.eqO_ok (T.says.more 44 (e := freeB "abs") rfl))
theorem Tx.b_bool (T : Tx K mg base) : mg "bool" = none := PySem.W.mg_none_of T.kin T.ns (He.eqO_ok (T.says.more 45 (e := freeB "bool") rfl))
theorem Tx.b_enumerate (T : Tx K mg base) : mg "enumerate" = none := PySem.W.mg_none_of T.kin T.ns (He.eqO_ok (T.says.more 46 (e := freeB "enumerate") rfl))
theorem Tx.b_int (T : Tx K mg base) : mg "int" = none := PySem.W.mg_none_of T.kin T.ns (He.eqO_ok (T.says.more 47 (e := freeB "int") rfl))
theorem Tx.b_isinstance (T : Tx K mg base) : mg "isinstance" = none := PySem.W.mg_none_of T.kin T.ns (He.eqO_ok (T.says.more 48 (e := freeB "isinstance") rfl))
theorem Tx.b_len (T : Tx K mg base) : mg "len" = none := PySem.W.mg_none_of T.kin T.ns (He.eqO_ok (T.says.more 49 (e := freeB "len") rfl))
theorem Tx.b_list (T : Tx K mg base) : mg "list" = none := PySem.W.mg_none_of T.kin T.ns (He.eqO_ok (T.says.more 50 (e := freeB "list") rfl))
theorem Tx.b_max (T : Tx K mg base) : mg "max" = none := PySem.W.mg_none_of T.kin T.ns (He.eqO_ok (T.says.more 51 (e := freeB "max") rfl))
theorem Tx.b_min (T : Tx K mg base) : mg "min" = none := PySem.W.mg_none_of T.kin T.ns (He.eqO_ok (T.says.more 52 (e := freeB "min") rfl))
theorem Tx.b_property (T : Tx K mg base) : mg "property" = none := PySem.W.mg_none_of T.kin T.ns (He.eqO_ok (T.says.more 53 (e := freeB "property") rfl))
theorem Tx.b_range (T : Tx K mg base) : mg "range" = none := PySem.W.mg_none_of T.kin T.ns (He.eqO_ok (T.says.more 54 (e := freeB "range") rfl))
theorem Tx.b_tuple (T : Tx K mg base) : mg "tuple" = none := PySem.W.mg_none_of T.kin T.ns (He.eqO_ok (T.says.more 55 (e := freeB "tuple") rfl))
theorem Tx.b_zip (T : Tx K mg base) : mg "zip" = none := PySem.W.mg_none_of T.kin T.ns (He.eqO_ok (T.says.more 56 (e := freeB "zip") rfl))
theorem Tx.c_ONE (T : Tx K mg base) : ∃ u, mg "ONE" = some u ∧ RelV (.int 1) u := conB_ok T.kin T.ns (T.says.more 57 (e := conB "ONE" (.int 1)) rfl)
theorem Tx.cls_Amount (T : Tx K mg base) : Cls K (He.ga K "Amount") := He.cls_ok (T.says.more 58 (e := clsB "Amount") rfl)
theorem Tx.mkr_Amount (T : Tx K mg base) : Mk K (He.ga K "Amount") (He.ma K (He.ga K "Amount") "__init__") := He.mkr_ok (T.says.more 59 (e := mkrB "Amount") rfl)
theorem Tx.ins_Amount (T : Tx K mg base) {H : Hp} {a dx : Addr} {fs : List (Str × V)} (e : H a = some (.ins (He.ga K "Amount") dx fs)) : TyX K H (.ref a) (.ref (He.ga K "Amount")) := insB_ok (T.says.more 60 (e := insB "Amount") rfl) T.cls_Amount e
theorem Tx.m_Amount_init_ (T : Tx K mg base) : Meth K (He.ga K "Amount") "__init__" (He.ma K (He.ga K "Amount") "__init__") := He.meth_ok (T.says.more 61 (e := methB "Amount" "__init__") rfl)
theorem Tx.m_Amount_eq_ (T : Tx K mg base) : Meth K (He.ga K "Amount") "__eq__" (He.ma K (He.ga K "Amount") "__eq__") := He.meth_ok (T.says.more 62 (e := methB "Amount" "__eq__") rfl)
theorem Tx.m_Amount_add_ (T : Tx K mg base) : Meth K (He.ga K "Amount") "__add__" (He.ma K (He.ga K "Amount") "__add__") := He.meth_ok (T.says.more 63 (e := methB "Amount" "__add__") rfl)
theorem Tx.m_Amount_sub_ (T : Tx K mg base) : Meth K (He.ga K "Amount") "__sub__" (He.ma K (He.ga K "Amount") "__sub__") := He.meth_ok (T.says.more 64 (e := methB "Amount" "__sub__") rfl)
theorem Tx.m_Amount_mul_ (T : Tx K mg base) : Meth K (He.ga K "Amount") "__mul__" (He.ma K (He.ga K "Amount") "__mul__") := He.meth_ok (T.says.more 65 (e := methB "Amount" "__mul__") rfl)
theorem Tx.m_Amount_divided (T : Tx K mg base) : Meth K (He.ga K "Amount") "divided" (He.ma K (He.ga K "Amount") "divided") := He.meth_ok (T.says.more 66 (e := methB "Amount" "divided") rfl)
theorem Tx.m_Amount_neg_ (T : Tx K mg base) : Meth K (He.ga K "Amount") "__neg__" (He.ma K (He.ga K "Amount") "__neg__") := He.meth_ok (T.says.more 67 (e := methB "Amount" "__neg__") rfl)
theorem Tx.m_Amount_abs_ (T : Tx K mg base) : Meth K (He.ga K "Amount") "__abs__" (He.ma K (He.ga K "Amount") "__abs__") := He.meth_ok (T.says.more 68 (e := methB "Amount" "__abs__") rfl)
theorem Tx.m_Amount_compare (T : Tx K mg base) : Meth K (He.ga K "Amount") "compare" (He.ma K (He.ga K "Amount") "compare") := He.meth_ok (T.says.more 69 (e := methB "Amount" "compare") rfl)
theorem Tx.no_Amount_own_top (T : Tx K mg base) : NoAttr K (He.ga K "Amount") "own_top" := He.noat_ok (T.says.more 70 (e := noatB "Amount" "own_top") rfl)
theorem Tx.no_Amount_own_bottom (T : Tx K mg base) : NoAttr K (He.ga K "Amount") "own_bottom" := He.noat_ok (T.says.more 71 (e := noatB "Amount" "own_bottom") rfl)
theorem Tx.pr_Amount_top (T : Tx K mg base) : ∃ p, PropOf K (He.ga K "Amount") "top" p (propAt "Amount" "top" K) := propB_ok (T.says.more 72 (e := propB "Amount" "top") rfl)
theorem Tx.pr_Amount_bottom (T : Tx K mg base) : ∃ p, PropOf K (He.ga K "Amount") "bottom" p (propAt "Amount" "bottom" K) := propB_ok (T.says.more 73 (e := propB "Amount" "bottom") rfl)
theorem Tx.k_NoneType_Amount (T : Tx K mg base) : PySem.W.kitOne K ((fun _ => .type "NoneType") K) ((fun K => .ref (He.ga K "Amount")) K) = some false := kitB_ok (T.says.more 74 (e := kitB (fun _ => .type "NoneType") (fun K => .ref (He.ga K "Amount")) false) rfl)
theorem Tx.k_bool_Amount (T : Tx K mg base) : PySem.W.kitOne K ((fun _ => .type "bool") K) ((fun K => .ref (He.ga K "Amount")) K) = some false := kitB_ok (T.says.more 75 (e := kitB (fun _ => .type "bool") (fun K => .ref (He.ga K "Amount")) false) rfl)
theorem Tx.k_int_Amount (T : Tx K mg base) : PySem.W.kitOne K ((fun _ => .type "int") K) ((fun K => .ref (He.ga K "Amount")) K) = some false := kitB_ok (T.says.more 76 (e := kitB (fun _ => .type "int") (fun K => .ref (He.ga K "Amount")) false) rfl)
theorem Tx.k_str_Amount (T : Tx K mg base) : PySem.W.kitOne K ((fun _ => .type "str") K) ((fun K => .ref (He.ga K "Amount")) K) = some false := kitB_ok (T.says.more 77 (e := kitB (fun _ => .type "str") (fun K => .ref (He.ga K "Amount")) false) rfl)
theorem Tx.k_list_Amount (T : Tx K mg base) : PySem.W.kitOne K ((fun _ => .type "list") K) ((fun K => .ref (He.ga K "Amount")) K) = some false := kitB_ok (T.says.more 78 (e := kitB (fun _ => .type "list") (fun K => .ref (He.ga K "Amount")) false) rfl)
theorem Tx.k_tuple_Amount (T : Tx K mg base) : PySem.W.kitOne K ((fun _ => .type "tuple") K) ((fun K => .ref (He.ga K "Amount")) K) = some false := kitB_ok (T.says.more 79 (e := kitB (fun _ => .type "tuple") (fun K => .ref (He.ga K "Amount")) false) rfl)
theorem Tx.k_dict_Amount (T : Tx K mg base) : PySem.W.kitOne K ((fun _ => .type "dict") K) ((fun K => .ref (He.ga K "Amount")) K) = some false := kitB_ok (T.says.more 80 (e := kitB (fun _ => .type "dict") (fun K => .ref (He.ga K "Amount")) false) rfl)
theorem Tx.k_Amount_Amount (T : Tx K mg base) : PySem.W.kitOne K ((fun K => .ref (He.ga K "Amount")) K) ((fun K => .ref (He.ga K "Amount")) K) = some true := kitB_ok (T.says.more 81 (e := kitB (fun K => .ref (He.ga K "Amount")) (fun K => .ref (He.ga K "Amount")) true) rfl)
theorem Tx.k_Amount_bool (T : Tx K mg base) : PySem.W.kitOne K ((fun K => .ref (He.ga K "Amount")) K) ((fun _ => .type "bool") K) = some false := kitB_ok (T.says.more 82 (e := kitB (fun K => .ref (He.ga K "Amount")) (fun _ => .type "bool") false) rfl)
theorem Tx.k_Amount_int (T : Tx K mg base) : PySem.W.kitOne K ((fun K => .ref (He.ga K "Amount")) K) ((fun _ => .type "int") K) = some false := kitB_ok (T.says.more 83 (e := kitB (fun K => .ref (He.ga K "Amount")) (fun _ => .type "int") false) rfl)
theorem Tx.k_Amount_str (T : Tx K mg base) : PySem.W.kitOne K ((fun K => .ref (He.ga K "Amount")) K) ((fun _ => .type "str") K) = some false := kitB_ok (T.says.more 84 (e := kitB (fun K => .ref (He.ga K "Amount")) (fun _ => .type "str") false) rfl)
theorem Tx.k_Amount_list (T : Tx K mg base) : PySem.W.kitOne K ((fun K => .ref (He.ga K "Amount")) K) ((fun _ => .type "list") K) = some false := kitB_ok (T.says.more 85 (e := kitB (fun K => .ref (He.ga K "Amount")) (fun _ => .type "list") false) rfl)
theorem Tx.k_Amount_tuple (T : Tx K mg base) : PySem.W.kitOne K ((fun K => .ref (He.ga K "Amount")) K) ((fun _ => .type "tuple") K) = some false := kitB_ok (T.says.more 86 (e := kitB (fun K => .ref (He.ga K "Amount")) (fun _ => .type "tuple") false) rfl)
theorem Tx.k_Amount_dict (T : Tx K mg base) : PySem.W.kitOne K ((fun K => .ref (He.ga K "Amount")) K) ((fun _ => .type "dict") K) = some false := kitB_ok (T.says.more 87 (e := kitB (fun K => .ref (He.ga K "Amount")) (fun _ => .type "dict") false) rfl)
theorem Tx.cls_TempoMap (T : Tx K mg base) : Cls K (He.ga K "TempoMap") := He.cls_ok (T.says.more 88 (e := clsB "TempoMap") rfl)
theorem Tx.mkr_TempoMap (T : Tx K mg base) : Mk K (He.ga K "TempoMap") (He.ma K (He.ga K "TempoMap") "__init__") := He.mkr_ok (T.says.more 89 (e := mkrB "TempoMap") rfl)
theorem Tx.ins_TempoMap (T : Tx K mg base) {H : Hp} {a dx : Addr} {fs : List (Str × V)} (e : H a = some (.ins (He.ga K "TempoMap") dx fs)) : TyX K H (.ref a) (.ref (He.ga K "TempoMap")) := insB_ok (T.says.more 90 (e := insB "TempoMap") rfl) T.cls_TempoMap e
theorem Tx.m_TempoMap_init_ (T : Tx K mg base) : Meth K (He.ga K "TempoMap") "__init__" (He.ma K (He.ga K "TempoMap") "__init__") := He.meth_ok (T.says.more 91 (e := methB "TempoMap" "__init__") rfl)
theorem Tx.m_TempoMap_call_ (T : Tx K mg base) : Meth K (He.ga K "TempoMap") "__call__" (He.ma K (He.ga K "TempoMap") "__call__") := He.meth_ok (T.says.more 92 (e := methB "TempoMap" "__call__") rfl)
theorem Tx.m_TempoMap_beat_of (T : Tx K mg base) : Meth K (He.ga K "TempoMap") "beat_of" (He.ma K (He.ga K "TempoMap") "beat_of") := He.meth_ok (T.says.more 93 (e := methB "TempoMap" "beat_of") rfl)
theorem Tx.m_TempoMap_pace (T : Tx K mg base) : Meth K (He.ga K "TempoMap") "pace" (He.ma K (He.ga K "TempoMap") "pace") := He.meth_ok (T.says.more 94 (e := methB "TempoMap" "pace") rfl)
theorem Tx.m_TempoMap_points (T : Tx K mg base) : Meth K (He.ga K "TempoMap") "points" (He.ma K (He.ga K "TempoMap") "points") := He.meth_ok (T.says.more 95 (e := methB "TempoMap" "points") rfl)
theorem Tx.m_TempoMap_inverse (T : Tx K mg base) : Meth K (He.ga K "TempoMap") "inverse" (He.ma K (He.ga K "TempoMap") "inverse") := He.meth_ok (T.says.more 96 (e := methB "TempoMap" "inverse") rfl)
theorem Tx.m_TempoMap_then (T : Tx K mg base) : Meth K (He.ga K "TempoMap") "then" (He.ma K (He.ga K "TempoMap") "then") := He.meth_ok (T.says.more 97 (e := methB "TempoMap" "then") rfl)
theorem Tx.m_TempoMap_eq_ (T : Tx K mg base) : Meth K (He.ga K "TempoMap") "__eq__" (He.ma K (He.ga K "TempoMap") "__eq__") := He.meth_ok (T.says.more 98 (e := methB "TempoMap" "__eq__") rfl)
theorem Tx.no_TempoMap_own_points (T : Tx K mg base) : NoAttr K (He.ga K "TempoMap") "own_points" := He.noat_ok (T.says.more 99 (e := noatB "TempoMap" "own_points") rfl)
theorem Tx.k_NoneType_TempoMap (T : Tx K mg base) : PySem.W.kitOne K ((fun _ => .type "NoneType") K) ((fun K => .ref (He.ga K "TempoMap")) K) = some false := kitB_ok (T.says.more 100 (e := kitB (fun _ => .type "NoneType") (fun K => .ref (He.ga K "TempoMap")) false) rfl)
theorem Tx.k_bool_TempoMap (T : Tx K mg base) : PySem.W.kitOne K ((fun _ => .type "bool") K) ((fun K => .ref (He.ga K "TempoMap")) K) = some false := kitB_ok (T.says.more 101 (e := kitB (fun _ => .type "bool") (fun K => .ref (He.ga K "TempoMap")) false) rfl)
theorem Tx.k_int_TempoMap (T : Tx K mg base) : PySem.W.kitOne K ((fun _ => .type "int") K) ((fun K => .ref (He.ga K "TempoMap")) K) = some false := kitB_ok (T.says.more 102 (e := kitB (fun _ => .type "int") (fun K => .ref (He.ga K "TempoMap")) false) rfl)
theorem Tx.k_str_TempoMap (T : Tx K mg base) : PySem.W.kitOne K ((fun _ => .type "str") K) ((fun K => .ref (He.ga K "TempoMap")) K) = some false := kitB_ok (T.says.more 103 (e := kitB (fun _ => .type "str") (fun K => .ref (He.ga K "TempoMap")) false) rfl)
theorem Tx.k_list_TempoMap (T : Tx K mg base) : PySem.W.kitOne K ((fun _ => .type "list") K) ((fun K => .ref (He.ga K "TempoMap")) K) = some false := kitB_ok (T.says.more 104 (e := kitB (fun _ => .type "list") (fun K => .ref (He.ga K "TempoMap")) false) rfl)
theorem Tx.k_tuple_TempoMap (T : Tx K mg base) : PySem.W.kitOne K ((fun _ => .type "tuple") K) ((fun K => .ref (He.ga K "TempoMap")) K) = some false := kitB_ok (T.says.more 105 (e := kitB (fun _ => .type "tuple") (fun K => .ref (He.ga K "TempoMap")) false) rfl)
theorem Tx.k_dict_TempoMap (T : Tx K mg base) : PySem.W.kitOne K ((fun _ => .type "dict") K) ((fun K => .ref (He.ga K "TempoMap")) K) = some false := kitB_ok (T.says.more 106 (e := kitB (fun _ => .type "dict") (fun K => .ref (He.ga K "TempoMap")) false) rfl)
theorem Tx.k_TempoMap_TempoMap (T : Tx K mg base) : PySem.W.kitOne K ((fun K => .ref (He.ga K "TempoMap")) K) ((fun K => .ref (He.ga K "TempoMap")) K) = some true := kitB_ok (T.says.more 107 (e := kitB (fun K => .ref (He.ga K "TempoMap")) (fun K => .ref (He.ga K "TempoMap")) true) rfl)
theorem Tx.k_TempoMap_bool (T : Tx K mg base) : PySem.W.kitOne K ((fun K => .ref (He.ga K "TempoMap")) K) ((fun _ => .type "bool") K) = some false := kitB_ok (T.says.more 108 (e := kitB (fun K => .ref (He.ga K "TempoMap")) (fun _ => .type "bool") false) rfl)
theorem Tx.k_TempoMap_int (T : Tx K mg base) : PySem.W.kitOne K ((fun K => .ref (He.ga K "TempoMap")) K) ((fun _ => .type "int") K) = some false := kitB_ok (T.says.more 109 (e := kitB (fun K => .ref (He.ga K "TempoMap")) (fun _ => .type "int") false) rfl)
theorem Tx.k_TempoMap_str (T : Tx K mg base) : PySem.W.kitOne K ((fun K => .ref (He.ga K "TempoMap")) K) ((fun _ => .type "str") K) = some false := kitB_ok (T.says.more 110 (e := kitB (fun K => .ref (He.ga K "TempoMap")) (fun _ => .type "str") false) rfl)
theorem Tx.k_TempoMap_list (T : Tx K mg base) : PySem.W.kitOne K ((fun K => .ref (He.ga K "TempoMap")) K) ((fun _ => .type "list") K) = some false := kitB_ok (T.says.more 111 (e := kitB (fun K => .ref (He.ga K "TempoMap")) (fun _ => .type "list") false) rfl)
theorem Tx.k_TempoMap_tuple (T : Tx K mg base) : PySem.W.kitOne K ((fun K => .ref (He.ga K "TempoMap")) K) ((fun _ => .type "tuple") K) = some false := kitB_ok (T.says.more 112 (e := kitB (fun K => .ref (He.ga K "TempoMap")) (fun _ => .type "tuple") false) rfl)
theorem Tx.k_TempoMap_dict (T : Tx K mg base) : PySem.W.kitOne K ((fun K => .ref (He.ga K "TempoMap")) K) ((fun _ => .type "dict") K) = some false := kitB_ok (T.says.more 113 (e := kitB (fun K => .ref (He.ga K "TempoMap")) (fun _ => .type "dict") false) rfl)
theorem Tx.ba_CueError (T : Tx K mg base) : Ba K "CueError" := baB_ok (T.says.more 114 (e := fun K => baB K "CueError") rfl)
theorem Tx.xc_InvalidInteger (T : Tx K mg base) : Xc K "InvalidInteger" "value" := xcB_ok (T.says.more 115 (e := fun K => xcB K "InvalidInteger" "value") rfl)
theorem Tx.xc_InvalidAmount (T : Tx K mg base) : Xc K "InvalidAmount" "value" := xcB_ok (T.says.more 116 (e := fun K => xcB K "InvalidAmount" "value") rfl)
theorem Tx.xc_InvalidPart (T : Tx K mg base) : Xc K "InvalidPart" "value" := xcB_ok (T.says.more 117 (e := fun K => xcB K "InvalidPart" "value") rfl)
theorem Tx.xc_InvalidPoint (T : Tx K mg base) : Xc K "InvalidPoint" "value" := xcB_ok (T.says.more 118 (e := fun K => xcB K "InvalidPoint" "value") rfl)
theorem Tx.xc_Falling (T : Tx K mg base) : Xc K "Falling" "index" := xcB_ok (T.says.more 119 (e := fun K => xcB K "Falling" "index") rfl)
theorem Tx.ex_InvalidInteger_InvalidInteger (T : Tx K mg base) : PySem.W.exmOne K (.ref (He.ga K "InvalidInteger")) (.ref (He.ga K "InvalidInteger")) = some true := He.exm_ok (T.says.more 120 (e := exmB "InvalidInteger" "InvalidInteger" true) rfl)
theorem Tx.ex_InvalidInteger_InvalidAmount (T : Tx K mg base) : PySem.W.exmOne K (.ref (He.ga K "InvalidInteger")) (.ref (He.ga K "InvalidAmount")) = some false := He.exm_ok (T.says.more 121 (e := exmB "InvalidInteger" "InvalidAmount" false) rfl)
theorem Tx.ex_InvalidInteger_InvalidPart (T : Tx K mg base) : PySem.W.exmOne K (.ref (He.ga K "InvalidInteger")) (.ref (He.ga K "InvalidPart")) = some false := He.exm_ok (T.says.more 122 (e := exmB "InvalidInteger" "InvalidPart" false) rfl)
theorem Tx.ex_InvalidInteger_InvalidPoint (T : Tx K mg base) : PySem.W.exmOne K (.ref (He.ga K "InvalidInteger")) (.ref (He.ga K "InvalidPoint")) = some false := He.exm_ok (T.says.more 123 (e := exmB "InvalidInteger" "InvalidPoint" false) rfl)
theorem Tx.ex_InvalidInteger_Falling (T : Tx K mg base) : PySem.W.exmOne K (.ref (He.ga K "InvalidInteger")) (.ref (He.ga K "Falling")) = some false := He.exm_ok (T.says.more 124 (e := exmB "InvalidInteger" "Falling" false) rfl)
theorem Tx.ex_InvalidAmount_InvalidInteger (T : Tx K mg base) : PySem.W.exmOne K (.ref (He.ga K "InvalidAmount")) (.ref (He.ga K "InvalidInteger")) = some false := He.exm_ok (T.says.more 125 (e := exmB "InvalidAmount" "InvalidInteger" false) rfl)
theorem Tx.ex_InvalidAmount_InvalidAmount (T : Tx K mg base) : PySem.W.exmOne K (.ref (He.ga K "InvalidAmount")) (.ref (He.ga K "InvalidAmount")) = some true := He.exm_ok (T.says.more 126 (e := exmB "InvalidAmount" "InvalidAmount" true) rfl)
theorem Tx.ex_InvalidAmount_InvalidPart (T : Tx K mg base) : PySem.W.exmOne K (.ref (He.ga K "InvalidAmount")) (.ref (He.ga K "InvalidPart")) = some false := He.exm_ok (T.says.more 127 (e := exmB "InvalidAmount" "InvalidPart" false) rfl)
theorem Tx.ex_InvalidAmount_InvalidPoint (T : Tx K mg base) : PySem.W.exmOne K (.ref (He.ga K "InvalidAmount")) (.ref (He.ga K "InvalidPoint")) = some false := He.exm_ok (T.says.more 128 (e := exmB "InvalidAmount" "InvalidPoint" false) rfl)
theorem Tx.ex_InvalidAmount_Falling (T : Tx K mg base) : PySem.W.exmOne K (.ref (He.ga K "InvalidAmount")) (.ref (He.ga K "Falling")) = some false := He.exm_ok (T.says.more 129 (e := exmB "InvalidAmount" "Falling" false) rfl)
theorem Tx.ex_InvalidPart_InvalidInteger (T : Tx K mg base) : PySem.W.exmOne K (.ref (He.ga K "InvalidPart")) (.ref (He.ga K "InvalidInteger")) = some false := He.exm_ok (T.says.more 130 (e := exmB "InvalidPart" "InvalidInteger" false) rfl)
theorem Tx.ex_InvalidPart_InvalidAmount (T : Tx K mg base) : PySem.W.exmOne K (.ref (He.ga K "InvalidPart")) (.ref (He.ga K "InvalidAmount")) = some false := He.exm_ok (T.says.more 131 (e := exmB "InvalidPart" "InvalidAmount" false) rfl)
theorem Tx.ex_InvalidPart_InvalidPart (T : Tx K mg base) : PySem.W.exmOne K (.ref (He.ga K "InvalidPart")) (.ref (He.ga K "InvalidPart")) = some true := He.exm_ok (T.says.more 132 (e := exmB "InvalidPart" "InvalidPart" true) rfl)
theorem Tx.ex_InvalidPart_InvalidPoint (T : Tx K mg base) : PySem.W.exmOne K (.ref (He.ga K "InvalidPart")) (.ref (He.ga K "InvalidPoint")) = some false := He.exm_ok (T.says.more 133 (e := exmB "InvalidPart" "InvalidPoint" false) rfl)
theorem Tx.ex_InvalidPart_Falling (T : Tx K mg base) : PySem.W.exmOne K (.ref (He.ga K "InvalidPart")) (.ref (He.ga K "Falling")) = some false := He.exm_ok (T.says.more 134 (e := exmB "InvalidPart" "Falling" false) rfl)
theorem Tx.ex_InvalidPoint_InvalidInteger (T : Tx K mg base) : PySem.W.exmOne K (.ref (He.ga K "InvalidPoint")) (.ref (He.ga K "InvalidInteger")) = some false := He.exm_ok (T.says.more 135 (e := exmB "InvalidPoint" "InvalidInteger" false) rfl)
theorem Tx.ex_InvalidPoint_InvalidAmount (T : Tx K mg base) : PySem.W.exmOne K (.ref (He.ga K "InvalidPoint")) (.ref (He.ga K "InvalidAmount")) = some false := He.exm_ok (T.says.more 136 (e := exmB "InvalidPoint" "InvalidAmount" false) rfl)
theorem Tx.ex_InvalidPoint_InvalidPart (T : Tx K mg base) : PySem.W.exmOne K (.ref (He.ga K "InvalidPoint")) (.ref (He.ga K "InvalidPart")) = some false := He.exm_ok (T.says.more 137 (e := exmB "InvalidPoint" "InvalidPart" false) rfl)
theorem Tx.ex_InvalidPoint_InvalidPoint (T : Tx K mg base) : PySem.W.exmOne K (.ref (He.ga K "InvalidPoint")) (.ref (He.ga K "InvalidPoint")) = some true := He.exm_ok (T.says.more 138 (e := exmB "InvalidPoint" "InvalidPoint" true) rfl)
theorem Tx.ex_InvalidPoint_Falling (T : Tx K mg base) : PySem.W.exmOne K (.ref (He.ga K "InvalidPoint")) (.ref (He.ga K "Falling")) = some false := He.exm_ok (T.says.more 139 (e := exmB "InvalidPoint" "Falling" false) rfl)
theorem Tx.ex_Falling_InvalidInteger (T : Tx K mg base) : PySem.W.exmOne K (.ref (He.ga K "Falling")) (.ref (He.ga K "InvalidInteger")) = some false := He.exm_ok (T.says.more 140 (e := exmB "Falling" "InvalidInteger" false) rfl)
theorem Tx.ex_Falling_InvalidAmount (T : Tx K mg base) : PySem.W.exmOne K (.ref (He.ga K "Falling")) (.ref (He.ga K "InvalidAmount")) = some false := He.exm_ok (T.says.more 141 (e := exmB "Falling" "InvalidAmount" false) rfl)
theorem Tx.ex_Falling_InvalidPart (T : Tx K mg base) : PySem.W.exmOne K (.ref (He.ga K "Falling")) (.ref (He.ga K "InvalidPart")) = some false := He.exm_ok (T.says.more 142 (e := exmB "Falling" "InvalidPart" false) rfl)
theorem Tx.ex_Falling_InvalidPoint (T : Tx K mg base) : PySem.W.exmOne K (.ref (He.ga K "Falling")) (.ref (He.ga K "InvalidPoint")) = some false := He.exm_ok (T.says.more 143 (e := exmB "Falling" "InvalidPoint" false) rfl)
theorem Tx.ex_Falling_Falling (T : Tx K mg base) : PySem.W.exmOne K (.ref (He.ga K "Falling")) (.ref (He.ga K "Falling")) = some true := He.exm_ok (T.says.more 144 (e := exmB "Falling" "Falling" true) rfl)
theorem Tx.xk_InvalidInteger (T : Tx K mg base) : ExcC K (He.ga K "InvalidInteger") := excs_ok (T.says.more 145 (e := excsB "InvalidInteger") rfl)
theorem Tx.kb_InvalidInteger (T : Tx K mg base) : PySem.W.kitOne K ((fun K => .ref (He.ga K "InvalidInteger")) K) ((fun K => .ref (He.ga K "CueError")) K) = some true := kitB_ok (T.says.more 146 (e := kitB (fun K => .ref (He.ga K "InvalidInteger")) (fun K => .ref (He.ga K "CueError")) true) rfl)
theorem Tx.xk_InvalidAmount (T : Tx K mg base) : ExcC K (He.ga K "InvalidAmount") := excs_ok (T.says.more 147 (e := excsB "InvalidAmount") rfl)
theorem Tx.kb_InvalidAmount (T : Tx K mg base) : PySem.W.kitOne K ((fun K => .ref (He.ga K "InvalidAmount")) K) ((fun K => .ref (He.ga K "CueError")) K) = some true := kitB_ok (T.says.more 148 (e := kitB (fun K => .ref (He.ga K "InvalidAmount")) (fun K => .ref (He.ga K "CueError")) true) rfl)
theorem Tx.xk_InvalidPart (T : Tx K mg base) : ExcC K (He.ga K "InvalidPart") := excs_ok (T.says.more 149 (e := excsB "InvalidPart") rfl)
theorem Tx.kb_InvalidPart (T : Tx K mg base) : PySem.W.kitOne K ((fun K => .ref (He.ga K "InvalidPart")) K) ((fun K => .ref (He.ga K "CueError")) K) = some true := kitB_ok (T.says.more 150 (e := kitB (fun K => .ref (He.ga K "InvalidPart")) (fun K => .ref (He.ga K "CueError")) true) rfl)
theorem Tx.xk_InvalidPoint (T : Tx K mg base) : ExcC K (He.ga K "InvalidPoint") := excs_ok (T.says.more 151 (e := excsB "InvalidPoint") rfl)
theorem Tx.kb_InvalidPoint (T : Tx K mg base) : PySem.W.kitOne K ((fun K => .ref (He.ga K "InvalidPoint")) K) ((fun K => .ref (He.ga K "CueError")) K) = some true := kitB_ok (T.says.more 152 (e := kitB (fun K => .ref (He.ga K "InvalidPoint")) (fun K => .ref (He.ga K "CueError")) true) rfl)
theorem Tx.xk_Falling (T : Tx K mg base) : ExcC K (He.ga K "Falling") := excs_ok (T.says.more 153 (e := excsB "Falling") rfl)
theorem Tx.kb_Falling (T : Tx K mg base) : PySem.W.kitOne K ((fun K => .ref (He.ga K "Falling")) K) ((fun K => .ref (He.ga K "CueError")) K) = some true := kitB_ok (T.says.more 154 (e := kitB (fun K => .ref (He.ga K "Falling")) (fun K => .ref (He.ga K "CueError")) true) rfl)
theorem Tx.dt_TempoMap_init_ (T : Tx K mg base) (H : Hp) : SqT K H ((dflA (fun K => He.ma K (He.ga K "TempoMap") "__init__") 0) K) [] := tup0_ok (T.says.more 155 (e := tup0B (dflA (fun K => He.ma K (He.ga K "TempoMap") "__init__") 0)) rfl) H
theorem Tx.eq_Amount (T : Tx K mg base) : EqC K (He.ga K "Amount") (He.ma K (He.ga K "Amount") "__eq__") := eqc_ok (T.says.more 156 (e := eqcB "Amount") rfl)
theorem Tx.op_Amount_add (T : Tx K mg base) : OpC K (He.ga K "Amount") (He.ma K (He.ga K "Amount") "__add__") "add" := opc_ok (T.says.more 157 (e := opcB "Amount" "__add__" "add") rfl)
theorem Tx.op_Amount_sub (T : Tx K mg base) : OpC K (He.ga K "Amount") (He.ma K (He.ga K "Amount") "__sub__") "sub" := opc_ok (T.says.more 158 (e := opcB "Amount" "__sub__" "sub") rfl)
theorem Tx.op_Amount_mul (T : Tx K mg base) : OpC K (He.ga K "Amount") (He.ma K (He.ga K "Amount") "__mul__") "mul" := opc_ok (T.says.more 159 (e := opcB "Amount" "__mul__" "mul") rfl)
theorem Tx.co_TempoMap (T : Tx K mg base) : StX.CallO K (He.ga K "TempoMap") (He.ma K (He.ga K "TempoMap") "__call__") := co_ok (T.says.more 160 (e := coB "TempoMap") rfl)
theorem Tx.eq_TempoMap (T : Tx K mg base) : EqC K (He.ga K "TempoMap") (He.ma K (He.ga K "TempoMap") "__eq__") := eqc_ok (T.says.more 161 (e := eqcB "TempoMap") rfl)
theorem Tx.sys (T : Tx K mg base) : ∃ o, K.lookup sysModules = some o ∧ o.cls = .type "dict" := sysB_ok (T.says.more 162 (e := sysB) rfl)
theorem Tx.f_InvalidInteger_init_ (T : Tx K mg base) : ∃ fd, FunD K d_InvalidInteger_init_.name d_InvalidInteger_init_.qual (defArgs s_InvalidInteger_init_) (defBody s_InvalidInteger_init_) (defScope s_InvalidInteger_init_) (d_InvalidInteger_init_.dvs K) (d_InvalidInteger_init_.kws K) (d_InvalidInteger_init_.loc K) fd := T.says.fun_ 0 (d := d_InvalidInteger_init_) rfl
theorem Tx.f_InvalidAmount_init_ (T : Tx K mg base) : ∃ fd, FunD K d_InvalidAmount_init_.name d_InvalidAmount_init_.qual (defArgs s_InvalidAmount_init_) (defBody s_InvalidAmount_init_) (defScope s_InvalidAmount_init_) (d_InvalidAmount_init_.dvs K) (d_InvalidAmount_init_.kws K) (d_InvalidAmount_init_.loc K) fd := T.says.fun_ 1 (d := d_InvalidAmount_init_) rfl
theorem Tx.f_InvalidPart_init_ (T : Tx K mg base) : ∃ fd, FunD K d_InvalidPart_init_.name d_InvalidPart_init_.qual (defArgs s_InvalidPart_init_) (defBody s_InvalidPart_init_) (defScope s_InvalidPart_init_) (d_InvalidPart_init_.dvs K) (d_InvalidPart_init_.kws K) (d_InvalidPart_init_.loc K) fd := T.says.fun_ 2 (d := d_InvalidPart_init_) rfl
theorem Tx.f_InvalidPoint_init_ (T : Tx K mg base) : ∃ fd, FunD K d_InvalidPoint_init_.name d_InvalidPoint_init_.qual (defArgs s_InvalidPoint_init_) (defBody s_InvalidPoint_init_) (defScope s_InvalidPoint_init_) (d_InvalidPoint_init_.dvs K) (d_InvalidPoint_init_.kws K) (d_InvalidPoint_init_.loc K) fd := T.says.fun_ 3 (d := d_InvalidPoint_init_) rfl
theorem Tx.f_Falling_init_ (T : Tx K mg base) : ∃ fd, FunD K d_Falling_init_.name d_Falling_init_.qual (defArgs s_Falling_init_) (defBody s_Falling_init_) (defScope s_Falling_init_) (d_Falling_init_.dvs K) (d_Falling_init_.kws K) (d_Falling_init_.loc K) fd := T.says.fun_ 4 (d := d_Falling_init_) rfl
theorem Tx.f_is_whole (T : Tx K mg base) : ∃ fd, FunD K d_is_whole.name d_is_whole.qual (defArgs s_is_whole) (defBody s_is_whole) (defScope s_is_whole) (d_is_whole.dvs K) (d_is_whole.kws K) (d_is_whole.loc K) fd := T.says.fun_ 5 (d := d_is_whole) rfl
theorem Tx.f_is_list (T : Tx K mg base) : ∃ fd, FunD K d_is_list.name d_is_list.qual (defArgs s_is_list) (defBody s_is_list) (defScope s_is_list) (d_is_list.dvs K) (d_is_list.kws K) (d_is_list.loc K) fd := T.says.fun_ 6 (d := d_is_list) rfl
theorem Tx.f_is_row (T : Tx K mg base) : ∃ fd, FunD K d_is_row.name d_is_row.qual (defArgs s_is_row) (defBody s_is_row) (defScope s_is_row) (d_is_row.dvs K) (d_is_row.kws K) (d_is_row.loc K) fd := T.says.fun_ 7 (d := d_is_row) rfl
theorem Tx.f_common_factor (T : Tx K mg base) : ∃ fd, FunD K d_common_factor.name d_common_factor.qual (defArgs s_common_factor) (defBody s_common_factor) (defScope s_common_factor) (d_common_factor.dvs K) (d_common_factor.kws K) (d_common_factor.loc K) fd := T.says.fun_ 8 (d := d_common_factor) rfl
theorem Tx.f_Amount_init_ (T : Tx K mg base) : ∃ fd, FunD K d_Amount_init_.name d_Amount_init_.qual (defArgs s_Amount_init_) (defBody s_Amount_init_) (defScope s_Amount_init_) (d_Amount_init_.dvs K) (d_Amount_init_.kws K) (d_Amount_init_.loc K) fd := T.says.fun_ 9 (d := d_Amount_init_) rfl
theorem Tx.f_Amount_top (T : Tx K mg base) : ∃ fd, FunD K d_Amount_top.name d_Amount_top.qual (defArgs s_Amount_top) (defBody s_Amount_top) (defScope s_Amount_top) (d_Amount_top.dvs K) (d_Amount_top.kws K) (d_Amount_top.loc K) fd := T.says.fun_ 10 (d := d_Amount_top) rfl
theorem Tx.f_Amount_bottom (T : Tx K mg base) : ∃ fd, FunD K d_Amount_bottom.name d_Amount_bottom.qual (defArgs s_Amount_bottom) (defBody s_Amount_bottom) (defScope s_Amount_bottom) (d_Amount_bottom.dvs K) (d_Amount_bottom.kws K) (d_Amount_bottom.loc K) fd := T.says.fun_ 11 (d := d_Amount_bottom) rfl
theorem Tx.f_Amount_eq_ (T : Tx K mg base) : ∃ fd, FunD K d_Amount_eq_.name d_Amount_eq_.qual (defArgs s_Amount_eq_) (defBody s_Amount_eq_) (defScope s_Amount_eq_) (d_Amount_eq_.dvs K) (d_Amount_eq_.kws K) (d_Amount_eq_.loc K) fd := T.says.fun_ 12 (d := d_Amount_eq_) rfl
theorem Tx.f_Amount_add_ (T : Tx K mg base) : ∃ fd, FunD K d_Amount_add_.name d_Amount_add_.qual (defArgs s_Amount_add_) (defBody s_Amount_add_) (defScope s_Amount_add_) (d_Amount_add_.dvs K) (d_Amount_add_.kws K) (d_Amount_add_.loc K) fd := T.says.fun_ 13 (d := d_Amount_add_) rfl
theorem Tx.f_Amount_sub_ (T : Tx K mg base) : ∃ fd, FunD K d_Amount_sub_.name d_Amount_sub_.qual (defArgs s_Amount_sub_) (defBody s_Amount_sub_) (defScope s_Amount_sub_) (d_Amount_sub_.dvs K) (d_Amount_sub_.kws K) (d_Amount_sub_.loc K) fd := T.says.fun_ 14 (d := d_Amount_sub_) rfl
theorem Tx.f_Amount_mul_ (T : Tx K mg base) : ∃ fd, FunD K d_Amount_mul_.name d_Amount_mul_.qual (defArgs s_Amount_mul_) (defBody s_Amount_mul_) (defScope s_Amount_mul_) (d_Amount_mul_.dvs K) (d_Amount_mul_.kws K) (d_Amount_mul_.loc K) fd := T.says.fun_ 15 (d := d_Amount_mul_) rfl
theorem Tx.f_Amount_divided (T : Tx K mg base) : ∃ fd, FunD K d_Amount_divided.name d_Amount_divided.qual (defArgs s_Amount_divided) (defBody s_Amount_divided) (defScope s_Amount_divided) (d_Amount_divided.dvs K) (d_Amount_divided.kws K) (d_Amount_divided.loc K) fd := T.says.fun_ 16 (d := d_Amount_divided) rfl
theorem Tx.f_Amount_neg_ (T : Tx K mg base) : ∃ fd, FunD K d_Amount_neg_.name d_Amount_neg_.qual (defArgs s_Amount_neg_) (defBody s_Amount_neg_) (defScope s_Amount_neg_) (d_Amount_neg_.dvs K) (d_Amount_neg_.kws K) (d_Amount_neg_.loc K) fd := T.says.fun_ 17 (d := d_Amount_neg_) rfl
theorem Tx.f_Amount_abs_ (T : Tx K mg base) : ∃ fd, FunD K d_Amount_abs_.name d_Amount_abs_.qual (defArgs s_Amount_abs_) (defBody s_Amount_abs_) (defScope s_Amount_abs_) (d_Amount_abs_.dvs K) (d_Amount_abs_.kws K) (d_Amount_abs_.loc K) fd := T.says.fun_ 18 (d := d_Amount_abs_) rfl
theorem Tx.f_Amount_compare (T : Tx K mg base) : ∃ fd, FunD K d_Amount_compare.name d_Amount_compare.qual (defArgs s_Amount_compare) (defBody s_Amount_compare) (defScope s_Amount_compare) (d_Amount_compare.dvs K) (d_Amount_compare.kws K) (d_Amount_compare.loc K) fd := T.says.fun_ 19 (d := d_Amount_compare) rfl
theorem Tx.f_is_amount (T : Tx K mg base) : ∃ fd, FunD K d_is_amount.name d_is_amount.qual (defArgs s_is_amount) (defBody s_is_amount) (defScope s_is_amount) (d_is_amount.dvs K) (d_is_amount.kws K) (d_is_amount.loc K) fd := T.says.fun_ 20 (d := d_is_amount) rfl
theorem Tx.f_amount_from (T : Tx K mg base) : ∃ fd, FunD K d_amount_from.name d_amount_from.qual (defArgs s_amount_from) (defBody s_amount_from) (defScope s_amount_from) (d_amount_from.dvs K) (d_amount_from.kws K) (d_amount_from.loc K) fd := T.says.fun_ 21 (d := d_amount_from) rfl
theorem Tx.f_checked_points (T : Tx K mg base) : ∃ fd, FunD K d_checked_points.name d_checked_points.qual (defArgs s_checked_points) (defBody s_checked_points) (defScope s_checked_points) (d_checked_points.dvs K) (d_checked_points.kws K) (d_checked_points.loc K) fd := T.says.fun_ 22 (d := d_checked_points) rfl
theorem Tx.f_slope (T : Tx K mg base) : ∃ fd, FunD K d_slope.name d_slope.qual (defArgs s_slope) (defBody s_slope) (defScope s_slope) (d_slope.dvs K) (d_slope.kws K) (d_slope.loc K) fd := T.says.fun_ 23 (d := d_slope) rfl
theorem Tx.f_led (T : Tx K mg base) : ∃ fd, FunD K d_led.name d_led.qual (defArgs s_led) (defBody s_led) (defScope s_led) (d_led.dvs K) (d_led.kws K) (d_led.loc K) fd := T.says.fun_ 24 (d := d_led) rfl
theorem Tx.f_paces (T : Tx K mg base) : ∃ fd, FunD K d_paces.name d_paces.qual (defArgs s_paces) (defBody s_paces) (defScope s_paces) (d_paces.dvs K) (d_paces.kws K) (d_paces.loc K) fd := T.says.fun_ 25 (d := d_paces) rfl
theorem Tx.f_bends (T : Tx K mg base) : ∃ fd, FunD K d_bends.name d_bends.qual (defArgs s_bends) (defBody s_bends) (defScope s_bends) (d_bends.dvs K) (d_bends.kws K) (d_bends.loc K) fd := T.says.fun_ 26 (d := d_bends) rfl
theorem Tx.f_TempoMap_init_ (T : Tx K mg base) : ∃ fd, FunD K d_TempoMap_init_.name d_TempoMap_init_.qual (defArgs s_TempoMap_init_) (defBody s_TempoMap_init_) (defScope s_TempoMap_init_) (d_TempoMap_init_.dvs K) (d_TempoMap_init_.kws K) (d_TempoMap_init_.loc K) fd := T.says.fun_ 27 (d := d_TempoMap_init_) rfl
theorem Tx.f_TempoMap_call_ (T : Tx K mg base) : ∃ fd, FunD K d_TempoMap_call_.name d_TempoMap_call_.qual (defArgs s_TempoMap_call_) (defBody s_TempoMap_call_) (defScope s_TempoMap_call_) (d_TempoMap_call_.dvs K) (d_TempoMap_call_.kws K) (d_TempoMap_call_.loc K) fd := T.says.fun_ 28 (d := d_TempoMap_call_) rfl
theorem Tx.f_TempoMap_beat_of (T : Tx K mg base) : ∃ fd, FunD K d_TempoMap_beat_of.name d_TempoMap_beat_of.qual (defArgs s_TempoMap_beat_of) (defBody s_TempoMap_beat_of) (defScope s_TempoMap_beat_of) (d_TempoMap_beat_of.dvs K) (d_TempoMap_beat_of.kws K) (d_TempoMap_beat_of.loc K) fd := T.says.fun_ 29 (d := d_TempoMap_beat_of) rfl
theorem Tx.f_TempoMap_pace (T : Tx K mg base) : ∃ fd, FunD K d_TempoMap_pace.name d_TempoMap_pace.qual (defArgs s_TempoMap_pace) (defBody s_TempoMap_pace) (defScope s_TempoMap_pace) (d_TempoMap_pace.dvs K) (d_TempoMap_pace.kws K) (d_TempoMap_pace.loc K) fd := T.says.fun_ 30 (d := d_TempoMap_pace) rfl
theorem Tx.f_TempoMap_points (T : Tx K mg base) : ∃ fd, FunD K d_TempoMap_points.name d_TempoMap_points.qual (defArgs s_TempoMap_points) (defBody s_TempoMap_points) (defScope s_TempoMap_points) (d_TempoMap_points.dvs K) (d_TempoMap_points.kws K) (d_TempoMap_points.loc K) fd := T.says.fun_ 31 (d := d_TempoMap_points) rfl
theorem Tx.f_TempoMap_inverse (T : Tx K mg base) : ∃ fd, FunD K d_TempoMap_inverse.name d_TempoMap_inverse.qual (defArgs s_TempoMap_inverse) (defBody s_TempoMap_inverse) (defScope s_TempoMap_inverse) (d_TempoMap_inverse.dvs K) (d_TempoMap_inverse.kws K) (d_TempoMap_inverse.loc K) fd := T.says.fun_ 32 (d := d_TempoMap_inverse) rfl
theorem Tx.f_TempoMap_then (T : Tx K mg base) : ∃ fd, FunD K d_TempoMap_then.name d_TempoMap_then.qual (defArgs s_TempoMap_then) (defBody s_TempoMap_then) (defScope s_TempoMap_then) (d_TempoMap_then.dvs K) (d_TempoMap_then.kws K) (d_TempoMap_then.loc K) fd := T.says.fun_ 33 (d := d_TempoMap_then) rfl
theorem Tx.f_TempoMap_eq_ (T : Tx K mg base) : ∃ fd, FunD K d_TempoMap_eq_.name d_TempoMap_eq_.qual (defArgs s_TempoMap_eq_) (defBody s_TempoMap_eq_) (defScope s_TempoMap_eq_) (d_TempoMap_eq_.dvs K) (d_TempoMap_eq_.kws K) (d_TempoMap_eq_.loc K) fd := T.says.fun_ 34 (d := d_TempoMap_eq_) rfl
theorem Tx.f_w_cell (T : Tx K mg base) : ∃ fd, FunD K d_w_cell.name d_w_cell.qual (defArgs s_w_cell) (defBody s_w_cell) (defScope s_w_cell) (d_w_cell.dvs K) (d_w_cell.kws K) (d_w_cell.loc K) fd := T.says.fun_ 35 (d := d_w_cell) rfl
theorem Tx.f_w_bag (T : Tx K mg base) : ∃ fd, FunD K d_w_bag.name d_w_bag.qual (defArgs s_w_bag) (defBody s_w_bag) (defScope s_w_bag) (d_w_bag.dvs K) (d_w_bag.kws K) (d_w_bag.loc K) fd := T.says.fun_ 36 (d := d_w_bag) rfl
theorem Tx.f_w_take (T : Tx K mg base) : ∃ fd, FunD K d_w_take.name d_w_take.qual (defArgs s_w_take) (defBody s_w_take) (defScope s_w_take) (d_w_take.dvs K) (d_w_take.kws K) (d_w_take.loc K) fd := T.says.fun_ 37 (d := d_w_take) rfl
theorem Tx.f_w_frac (T : Tx K mg base) : ∃ fd, FunD K d_w_frac.name d_w_frac.qual (defArgs s_w_frac) (defBody s_w_frac) (defScope s_w_frac) (d_w_frac.dvs K) (d_w_frac.kws K) (d_w_frac.loc K) fd := T.says.fun_ 38 (d := d_w_frac) rfl
theorem Tx.f_w_sum (T : Tx K mg base) : ∃ fd, FunD K d_w_sum.name d_w_sum.qual (defArgs s_w_sum) (defBody s_w_sum) (defScope s_w_sum) (d_w_sum.dvs K) (d_w_sum.kws K) (d_w_sum.loc K) fd := T.says.fun_ 39 (d := d_w_sum) rfl
theorem Tx.f_w_less (T : Tx K mg base) : ∃ fd, FunD K d_w_less.name d_w_less.qual (defArgs s_w_less) (defBody s_w_less) (defScope s_w_less) (d_w_less.dvs K) (d_w_less.kws K) (d_w_less.loc K) fd := T.says.fun_ 40 (d := d_w_less) rfl
theorem Tx.f_w_rest (T : Tx K mg base) : ∃ fd, FunD K d_w_rest.name d_w_rest.qual (defArgs s_w_rest) (defBody s_w_rest) (defScope s_w_rest) (d_w_rest.dvs K) (d_w_rest.kws K) (d_w_rest.loc K) fd := T.says.fun_ 41 (d := d_w_rest) rfl
theorem Tx.f_w_product (T : Tx K mg base) : ∃ fd, FunD K d_w_product.name d_w_product.qual (defArgs s_w_product) (defBody s_w_product) (defScope s_w_product) (d_w_product.dvs K) (d_w_product.kws K) (d_w_product.loc K) fd := T.says.fun_ 42 (d := d_w_product) rfl
theorem Tx.f_w_quotient (T : Tx K mg base) : ∃ fd, FunD K d_w_quotient.name d_w_quotient.qual (defArgs s_w_quotient) (defBody s_w_quotient) (defScope s_w_quotient) (d_w_quotient.dvs K) (d_w_quotient.kws K) (d_w_quotient.loc K) fd := T.says.fun_ 43 (d := d_w_quotient) rfl
theorem Tx.f_w_fraction (T : Tx K mg base) : ∃ fd, FunD K d_w_fraction.name d_w_fraction.qual (defArgs s_w_fraction) (defBody s_w_fraction) (defScope s_w_fraction) (d_w_fraction.dvs K) (d_w_fraction.kws K) (d_w_fraction.loc K) fd := T.says.fun_ 44 (d := d_w_fraction) rfl
theorem Tx.f_w_step (T : Tx K mg base) : ∃ fd, FunD K d_w_step.name d_w_step.qual (defArgs s_w_step) (defBody s_w_step) (defScope s_w_step) (d_w_step.dvs K) (d_w_step.kws K) (d_w_step.loc K) fd := T.says.fun_ 45 (d := d_w_step) rfl
theorem Tx.f_w_given (T : Tx K mg base) : ∃ fd, FunD K d_w_given.name d_w_given.qual (defArgs s_w_given) (defBody s_w_given) (defScope s_w_given) (d_w_given.dvs K) (d_w_given.kws K) (d_w_given.loc K) fd := T.says.fun_ 46 (d := d_w_given) rfl
theorem Tx.f_w_points (T : Tx K mg base) : ∃ fd, FunD K d_w_points.name d_w_points.qual (defArgs s_w_points) (defBody s_w_points) (defScope s_w_points) (d_w_points.dvs K) (d_w_points.kws K) (d_w_points.loc K) fd := T.says.fun_ 47 (d := d_w_points) rfl
theorem Tx.f_w_led (T : Tx K mg base) : ∃ fd, FunD K d_w_led.name d_w_led.qual (defArgs s_w_led) (defBody s_w_led) (defScope s_w_led) (d_w_led.dvs K) (d_w_led.kws K) (d_w_led.loc K) fd := T.says.fun_ 48 (d := d_w_led) rfl
theorem Tx.f_w_paces (T : Tx K mg base) : ∃ fd, FunD K d_w_paces.name d_w_paces.qual (defArgs s_w_paces) (defBody s_w_paces) (defScope s_w_paces) (d_w_paces.dvs K) (d_w_paces.kws K) (d_w_paces.loc K) fd := T.says.fun_ 49 (d := d_w_paces) rfl
theorem Tx.f_w_bends (T : Tx K mg base) : ∃ fd, FunD K d_w_bends.name d_w_bends.qual (defArgs s_w_bends) (defBody s_w_bends) (defScope s_w_bends) (d_w_bends.dvs K) (d_w_bends.kws K) (d_w_bends.loc K) fd := T.says.fun_ 50 (d := d_w_bends) rfl
theorem Tx.f_w_pair (T : Tx K mg base) : ∃ fd, FunD K d_w_pair.name d_w_pair.qual (defArgs s_w_pair) (defBody s_w_pair) (defScope s_w_pair) (d_w_pair.dvs K) (d_w_pair.kws K) (d_w_pair.loc K) fd := T.says.fun_ 51 (d := d_w_pair) rfl
theorem Tx.f_w_pairs (T : Tx K mg base) : ∃ fd, FunD K d_w_pairs.name d_w_pairs.qual (defArgs s_w_pairs) (defBody s_w_pairs) (defScope s_w_pairs) (d_w_pairs.dvs K) (d_w_pairs.kws K) (d_w_pairs.loc K) fd := T.says.fun_ 52 (d := d_w_pairs) rfl
theorem Tx.f_w_asked (T : Tx K mg base) : ∃ fd, FunD K d_w_asked.name d_w_asked.qual (defArgs s_w_asked) (defBody s_w_asked) (defScope s_w_asked) (d_w_asked.dvs K) (d_w_asked.kws K) (d_w_asked.loc K) fd := T.says.fun_ 53 (d := d_w_asked) rfl
theorem Tx.f_w_right (T : Tx K mg base) : ∃ fd, FunD K d_w_right.name d_w_right.qual (defArgs s_w_right) (defBody s_w_right) (defScope s_w_right) (d_w_right.dvs K) (d_w_right.kws K) (d_w_right.loc K) fd := T.says.fun_ 54 (d := d_w_right) rfl
theorem Tx.f_w_finer (T : Tx K mg base) : ∃ fd, FunD K d_w_finer.name d_w_finer.qual (defArgs s_w_finer) (defBody s_w_finer) (defScope s_w_finer) (d_w_finer.dvs K) (d_w_finer.kws K) (d_w_finer.loc K) fd := T.says.fun_ 55 (d := d_w_finer) rfl
theorem Tx.f_w_others_right (T : Tx K mg base) : ∃ fd, FunD K d_w_others_right.name d_w_others_right.qual (defArgs s_w_others_right) (defBody s_w_others_right) (defScope s_w_others_right) (d_w_others_right.dvs K) (d_w_others_right.kws K) (d_w_others_right.loc K) fd := T.says.fun_ 56 (d := d_w_others_right) rfl
theorem Tx.f_law (T : Tx K mg base) : ∃ fd, FunD K d_law.name d_law.qual (defArgs s_law) (defBody s_law) (defScope s_law) (d_law.dvs K) (d_law.kws K) (d_law.loc K) fd := T.says.fun_ 57 (d := d_law) rfl
end
def nm0 : List PySem.Str := [("_wall" : PySem.Str), ("CueError" : PySem.Str), ("InvalidInteger" : PySem.Str), ("InvalidAmount" : PySem.Str), ("InvalidPart" : PySem.Str), ("InvalidPoint" : PySem.Str), ("Falling" : PySem.Str), ("is_whole" : PySem.Str), ("is_list" : PySem.Str), ("is_row" : PySem.Str), ("common_factor" : PySem.Str), ("Amount" : PySem.Str), ("is_amount" : PySem.Str), ("amount_from" : PySem.Str), ("ONE" : PySem.Str), ("checked_points" : PySem.Str), ("slope" : PySem.Str), ("led" : PySem.Str), ("paces" : PySem.Str), ("bends" : PySem.Str), ("TempoMap" : PySem.Str), ("_law_cell" : PySem.Str), ("_law_bag" : PySem.Str), ("_law_take" : PySem.Str), ("_law_frac" : PySem.Str), ("_law_sum" : PySem.Str), ("_law_less" : PySem.Str), ("_law_rest" : PySem.Str), ("_law_product" : PySem.Str), ("_law_quotient" : PySem.Str), ("_law_fraction" : PySem.Str), ("_law_step" : PySem.Str), ("_law_given" : PySem.Str), ("_law_points" : PySem.Str), ("_law_led" : PySem.Str)]
def nm1 : List PySem.Str := [("_law_paces" : PySem.Str), ("_law_bends" : PySem.Str), ("_law_pair" : PySem.Str), ("_law_pairs" : PySem.Str), ("_law_asked" : PySem.Str), ("_law_right" : PySem.Str), ("_law_finer" : PySem.Str), ("_law_others_right" : PySem.Str)]
def names : List PySem.Str := nm0 ++ nm1
def lawAt : Nat := 48
end K08

set_option maxHeartbeats 4000000
namespace K08
open PySem PySem.Spec PyProof.Rows L2 AT
/-! ### values of any kind -/
abbrev cA (K : PySem.W.Frag) : Addr := He.ga K "Amount"
def amtF (n d : Int) : List (Str × V) := [("own_top", .int n), ("own_bottom", .int d)]
def amtQ (q : Rat) : List (Str × V) := amtF q.num q.den
/-- at p stands an amount of the value q -/
def IsQ (K : PySem.W.Frag) (H : Hp) (p : Addr) (q : Rat) : Prop := ∃ dx, H p = some (.ins (cA K) dx (amtQ q))
inductive AnyV (K : PySem.W.Frag) (H : Hp) : V → Prop where
  | non : AnyV K H .non
  | bl (b : Bool) : AnyV K H (.bl b)
  | int (i : Int) : AnyV K H (.int i)
  | str (x : Str) : AnyV K H (.str x)
  | lst {a : Addr} {xs : List V} (e : H a = some (.lst xs)) : AnyV K H (.ref a)
  | tup {a : Addr} {xs : List V} (e : H a = some (.tup xs)) : AnyV K H (.ref a)
  | dct {a : Addr} {kvs : List (Key × V)} (e : H a = some (.dK kvs)) : AnyV K H (.ref a)
  | amt {a : Addr} {q : Rat} (e : IsQ K H a q) : AnyV K H (.ref a)
theorem AnyV.up {K : PySem.W.Frag} {H H' : Hp} {v : V} (h : AnyV K H v) (s : Same H H') : AnyV K H' v := by
  cases h with
  | non => exact .non
  | bl b => exact .bl b
  | int i => exact .int i
  | str x => exact .str x
  | lst e => exact .lst (s _ _ e)
  | tup e => exact .tup (s _ _ e)
  | dct e => exact .dct (s _ _ e)
  | amt e => exact .amt (e.imp fun _ z => s _ _ z)
def wholeV : V → Bool
  | .int _ => true
  | _ => false
def intV : V → Bool
  | .int _ => true
  | .bl _ => true
  | _ => false
def blV : V → Bool
  | .bl _ => true
  | _ => false
def strV : V → Bool
  | .str _ => true
  | _ => false
section
variable {P : Program} {w : World} {K : PySem.W.Frag} {mg : Str → Option Value} {base : Heap}
theorem isi_int (T : Tx K mg base) {H : Hp} {v : V} (h : AnyV K H v) : ∃ t, TyX K H v t ∧ PySem.W.kitOne K t (.type "int") = some (intV v) := by
  cases h with
  | non  => exact ⟨_, .base .non, kit_ty (r := false) (by decide +kernel)⟩
  | bl b => exact ⟨_, .base (.bl b), kit_ty (r := true) (by decide +kernel)⟩
  | int i => exact ⟨_, .base (.int i), kit_ty (r := true) (by decide +kernel)⟩
  | str x => exact ⟨_, .base (.str x), kit_ty (r := false) (by decide +kernel)⟩
  | lst e => exact ⟨_, .base (.lst e), kit_ty (r := false) (by decide +kernel)⟩
  | tup e => exact ⟨_, .base (.tup e), kit_ty (r := false) (by decide +kernel)⟩
  | dct e => exact ⟨_, .base (.dK e), kit_ty (r := false) (by decide +kernel)⟩
  | amt e => obtain ⟨dx, e⟩ := e; exact ⟨_, T.ins_Amount e, T.k_Amount_int⟩
theorem isi_bool (T : Tx K mg base) {H : Hp} {v : V} (h : AnyV K H v) : ∃ t, TyX K H v t ∧ PySem.W.kitOne K t (.type "bool") = some (blV v) := by
  cases h with
  | non  => exact ⟨_, .base .non, kit_ty (r := false) (by decide +kernel)⟩
  | bl b => exact ⟨_, .base (.bl b), kit_ty (r := true) (by decide +kernel)⟩
  | int i => exact ⟨_, .base (.int i), kit_ty (r := false) (by decide +kernel)⟩
  | str x => exact ⟨_, .base (.str x), kit_ty (r := false) (by decide +kernel)⟩
  | lst e => exact ⟨_, .base (.lst e), kit_ty (r := false) (by decide +kernel)⟩
  | tup e => exact ⟨_, .base (.tup e), kit_ty (r := false) (by decide +kernel)⟩
  | dct e => exact ⟨_, .base (.dK e), kit_ty (r := false) (by decide +kernel)⟩
  | amt e => obtain ⟨dx, e⟩ := e; exact ⟨_, T.ins_Amount e, T.k_Amount_bool⟩
/-- the type, as the operators ask for it -/
theorem AnyV.ofTy (T : Tx K mg base) {H : Hp} {v : V} (h : AnyV K H v) : OfTy K H (cA K) v := by
  cases h with
  | non => exact ⟨_, .base .non, .inr ⟨_, rfl, by decide⟩⟩
  | bl b => exact ⟨_, .base (.bl b), .inr ⟨_, rfl, by decide⟩⟩
  | int i => exact ⟨_, .base (.int i), .inr ⟨_, rfl, by decide⟩⟩
  | str x => exact ⟨_, .base (.str x), .inr ⟨_, rfl, by decide⟩⟩
  | lst e => exact ⟨_, .base (.lst e), .inr ⟨_, rfl, by decide⟩⟩
  | tup e => exact ⟨_, .base (.tup e), .inr ⟨_, rfl, by decide⟩⟩
  | dct e => exact ⟨_, .base (.dK e), .inr ⟨_, rfl, by decide⟩⟩
  | amt e => obtain ⟨dx, e⟩ := e; exact ⟨_, T.ins_Amount e, .inl rfl⟩
/-! ### the exceptions -/
theorem ok_InvalidInteger_init_ (T : Tx K mg base) : Ok P w K mg base 1 (He.ma K (He.ga K "InvalidInteger") "__init__") ["self", "value"] (spXi K (He.ga K "InvalidInteger") "value") := by
  refine mk_ok (N := ["self", "value"]) T.f_InvalidInteger_init_ ⟨rfl, rfl, rfl, by decide +kernel, rfl, by decide +kernel, by decide +kernel⟩ (fun _ _ _ _ _ _ us hl => match us, hl with | [_, _], _ => rfl) (fun vs H Q E h => ?_) (fun cdv A outer s H vs Q E hr h => ?_)
  · obtain ⟨a, v, rfl, _⟩ := h
    rfl
  · exact ⟨_, pss_cons (ps_expr (pe_cinit T.ba_CueError rfl T.g_CueError (pa_cons (pv 0) (pa_cons pe_str pa_nil)))) (pss_one (ps_ost (pv 0) (pv 1))), xi_reading rfl vs H Q E h⟩
theorem mx_InvalidInteger {X : Cx} (T : Tx X.K X.mg X.base) (hr : Room 2 X.A) : MkX X "InvalidInteger" "value" := mk_X T.xc_InvalidInteger T.g_InvalidInteger (ok_InvalidInteger_init_ T) hr
theorem ok_InvalidAmount_init_ (T : Tx K mg base) : Ok P w K mg base 1 (He.ma K (He.ga K "InvalidAmount") "__init__") ["self", "value"] (spXi K (He.ga K "InvalidAmount") "value") := by
  refine mk_ok (N := ["self", "value"]) T.f_InvalidAmount_init_ ⟨rfl, rfl, rfl, by decide +kernel, rfl, by decide +kernel, by decide +kernel⟩ (fun _ _ _ _ _ _ us hl => match us, hl with | [_, _], _ => rfl) (fun vs H Q E h => ?_) (fun cdv A outer s H vs Q E hr h => ?_)
  · obtain ⟨a, v, rfl, _⟩ := h
    rfl
  · exact ⟨_, pss_cons (ps_expr (pe_cinit T.ba_CueError rfl T.g_CueError (pa_cons (pv 0) (pa_cons pe_str pa_nil)))) (pss_one (ps_ost (pv 0) (pv 1))), xi_reading rfl vs H Q E h⟩
theorem mx_InvalidAmount {X : Cx} (T : Tx X.K X.mg X.base) (hr : Room 2 X.A) : MkX X "InvalidAmount" "value" := mk_X T.xc_InvalidAmount T.g_InvalidAmount (ok_InvalidAmount_init_ T) hr
theorem ok_InvalidPart_init_ (T : Tx K mg base) : Ok P w K mg base 1 (He.ma K (He.ga K "InvalidPart") "__init__") ["self", "value"] (spXi K (He.ga K "InvalidPart") "value") := by
  refine mk_ok (N := ["self", "value"]) T.f_InvalidPart_init_ ⟨rfl, rfl, rfl, by decide +kernel, rfl, by decide +kernel, by decide +kernel⟩ (fun _ _ _ _ _ _ us hl => match us, hl with | [_, _], _ => rfl) (fun vs H Q E h => ?_) (fun cdv A outer s H vs Q E hr h => ?_)
  · obtain ⟨a, v, rfl, _⟩ := h
    rfl
  · exact ⟨_, pss_cons (ps_expr (pe_cinit T.ba_CueError rfl T.g_CueError (pa_cons (pv 0) (pa_cons pe_str pa_nil)))) (pss_one (ps_ost (pv 0) (pv 1))), xi_reading rfl vs H Q E h⟩
theorem mx_InvalidPart {X : Cx} (T : Tx X.K X.mg X.base) (hr : Room 2 X.A) : MkX X "InvalidPart" "value" := mk_X T.xc_InvalidPart T.g_InvalidPart (ok_InvalidPart_init_ T) hr
theorem ok_InvalidPoint_init_ (T : Tx K mg base) : Ok P w K mg base 1 (He.ma K (He.ga K "InvalidPoint") "__init__") ["self", "value"] (spXi K (He.ga K "InvalidPoint") "value") := by
  refine mk_ok (N := ["self", "value"]) T.f_InvalidPoint_init_ ⟨rfl, rfl, rfl, by decide +kernel, rfl, by decide +kernel, by decide +kernel⟩ (fun _ _ _ _ _ _ us hl => match us, hl with | [_, _], _ => rfl) (fun vs H Q E h => ?_) (fun cdv A outer s H vs Q E hr h => ?_)
  · obtain ⟨a, v, rfl, _⟩ := h
    rfl
  · exact ⟨_, pss_cons (ps_expr (pe_cinit T.ba_CueError rfl T.g_CueError (pa_cons (pv 0) (pa_cons pe_str pa_nil)))) (pss_one (ps_ost (pv 0) (pv 1))), xi_reading rfl vs H Q E h⟩
theorem mx_InvalidPoint {X : Cx} (T : Tx X.K X.mg X.base) (hr : Room 2 X.A) : MkX X "InvalidPoint" "value" := mk_X T.xc_InvalidPoint T.g_InvalidPoint (ok_InvalidPoint_init_ T) hr
theorem ok_Falling_init_ (T : Tx K mg base) : Ok P w K mg base 1 (He.ma K (He.ga K "Falling") "__init__") ["self", "index"] (spXi K (He.ga K "Falling") "index") := by
  refine mk_ok (N := ["self", "index"]) T.f_Falling_init_ ⟨rfl, rfl, rfl, by decide +kernel, rfl, by decide +kernel, by decide +kernel⟩ (fun _ _ _ _ _ _ us hl => match us, hl with | [_, _], _ => rfl) (fun vs H Q E h => ?_) (fun cdv A outer s H vs Q E hr h => ?_)
  · obtain ⟨a, v, rfl, _⟩ := h
    rfl
  · exact ⟨_, pss_cons (ps_expr (pe_cinit T.ba_CueError rfl T.g_CueError (pa_cons (pv 0) (pa_cons pe_str pa_nil)))) (pss_one (ps_ost (pv 0) (pv 1))), xi_reading rfl vs H Q E h⟩
theorem mx_Falling {X : Cx} (T : Tx X.K X.mg X.base) (hr : Room 2 X.A) : MkX X "Falling" "index" := mk_X T.xc_Falling T.g_Falling (ok_Falling_init_ T) hr
/-- what is raised: a new exception of the class x whose field f is v -/
def Rf (K : PySem.W.Frag) (x f : Str) (v : V) (H : Hp) (E : XK) : Prop := ∀ H' d, Same H H' → H d = none → H' d = some (.xd [(f, v)]) → E (.ref (He.ga K x)) (some d) H'
theorem rf_of {K : PySem.W.Frag} {x f : Str} {v : V} {H : Hp} {E : XK} (h : Rf K x f v H E) : ∀ d, H d = none → E (.ref (He.ga K x)) (some d) (upd H d (.xd [(f, v)])) := fun d hd =>
  h _ d (fun b o e => by rw [upd_ne (ne_of_none e hd)]; exact e) hd upd_same
theorem Rf.up {K : PySem.W.Frag} {x f : Str} {v : V} {H H1 : Hp} {E : XK} (h : Rf K x f v H E) (s : Same H H1) : Rf K x f v H1 E := fun H' d s2 hd hx => h H' d (s.trans s2) (by
  cases q : H d with
  | none => rfl
  | some o => rw [s _ _ q] at hd; cases hd) hx
/-! ### is_whole -/
def spWhole (K : PySem.W.Frag) : Sp := fun vs H Q _ => ∃ v, vs = [v] ∧ AnyV K H v ∧ Q (.bl (wholeV v)) H
theorem sc_is_whole : FnScope ["value"] ["value"] (defScope s_is_whole) := ⟨rfl, rfl, rfl, by decide +kernel, rfl, by decide +kernel, by decide +kernel⟩
theorem ok_is_whole (T : Tx K mg base) : Ok P w K mg base 1 (d_is_whole.loc K) ["value"] (spWhole K) := by
  refine mk_ok (k := 0) T.f_is_whole sc_is_whole (fun _ _ _ _ _ _ us hl => match us, hl with | [_], _ => rfl) (fun vs H Q E h => ?_) (fun cdv A outer s H vs Q E hr h => ?_)
  · obtain ⟨v, rfl, _⟩ := h
    rfl
  · obtain ⟨v, rfl, hv, k⟩ := h
    refine ⟨_, (pss_one (ps_ret (pe_and (pe_callB call_isi (by rfl) T.b_isinstance (by decide +kernel) (pa_cons (pv 0) (pa_cons (pe_bltn (v := .ty "int") rfl T.b_int (by decide +kernel) rfl) pa_nil))) (pe_one (pe_not (pe_callB call_isi (by rfl) T.b_isinstance (by decide +kernel) (pa_cons (pv 0) (pa_cons (pe_bltn (v := .ty "bool") rfl T.b_bool (by decide +kernel) rfl) pa_nil)))))))), ?_⟩
    obtain ⟨t1, y1, q1⟩ := isi_int T hv
    obtain ⟨t2, y2, q2⟩ := isi_bool T hv
    refine ⟨_, rfl, _, _, _, _, _, rfl, .ty _, y1, q1, _, rfl, ?_⟩
    cases hv with
    | bl b => exact ⟨_, rfl, _, _, _, _, _, rfl, .ty _, y2, q2, _, rfl, k⟩
    | int i => exact ⟨_, rfl, _, _, _, _, _, rfl, .ty _, y2, q2, _, rfl, k⟩
    | _ => exact k
/-! ### common_factor -/
def spGcd : Sp := fun vs H Q _ => ∃ a b : Int, vs = [.int a, .int b] ∧ 0 ≤ a ∧ 0 ≤ b ∧ Q (.int (Int.gcd a b : Nat)) H
theorem gcd_turn {a b : Int} (ha : 0 ≤ a) (hb : 0 < b) : Int.gcd b (a % b) = Int.gcd a b := by
  obtain ⟨n, rfl⟩ := Int.eq_ofNat_of_zero_le ha
  obtain ⟨m, rfl⟩ := Int.eq_ofNat_of_zero_le (Int.le_of_lt hb)
  have e : (n : Int) % (m : Int) = ((n % m : Nat) : Int) := by simp
  show Nat.gcd (Int.natAbs (m : Int)) (Int.natAbs ((n : Int) % (m : Int))) = Nat.gcd (Int.natAbs (n : Int)) (Int.natAbs (m : Int))
  rw [e, Int.natAbs_natCast, Int.natAbs_natCast, Int.natAbs_natCast, Nat.gcd_comm m, ← Nat.gcd_rec, Nat.gcd_comm]
theorem sc_common_factor : FnScope ["one", "other"] ["one", "other"] (defScope s_common_factor) := ⟨rfl, rfl, rfl, by decide +kernel, rfl, by decide +kernel, by decide +kernel⟩
theorem ok_common_factor (T : Tx K mg base) : Ok P w K mg base 1 (d_common_factor.loc K) ["one", "other"] spGcd := by
  refine mk_ok (k := 0) T.f_common_factor sc_common_factor (fun _ _ _ _ _ _ us hl => match us, hl with | [_, _], _ => rfl) (fun vs H Q E h => ?_) (fun cdv A outer s H vs Q E hr h => ?_)
  · obtain ⟨a, b, rfl, _⟩ := h
    rfl
  · obtain ⟨a, b, rfl, ha, hb, k⟩ := h
    refine ⟨_, (pss_cons (ps_while (passes_of rfl) (pt_cmpR op_gt (pv 1) pe_int (nomark _)) (pss_one (ps_par (by rfl) sc_common_factor.nd (i := 0) (j := 1) rfl rfl (by decide) rfl rfl (pa_cons (pv 1) (pa_cons (pe_op op_mod (pv 0) (pv 1)) pa_nil)) (by rfl))))
      (pss_one (ps_ret (pv 0)))), ?_⟩
    refine ⟨fun m σ H' => ∃ a' b' : Int, σ = [some (.int a'), some (.int b')] ∧ H' = H ∧ 0 ≤ a' ∧ 0 ≤ b' ∧ Int.gcd a' b' = Int.gcd a b ∧ m = b'.toNat, ⟨_, a, b, rfl, rfl, ha, hb, rfl, rfl⟩, ?_⟩
    rintro m σ H' ⟨a', b', rfl, rfl, ha', hb', hg, rfl⟩
    refine ⟨_, rfl, _, _, rfl, rfl, _, rfl, ?_⟩
    refine ite2 (fun h1 => ?_) (fun h1 => ?_)
    · have h1' : 0 < b' := of_decide_eq_true h1
      refine ⟨fun σ2 H2 => ∃ a2 b2 : Int, σ2 = [some (.int a2), some (.int b2)] ∧ H2 = H' ∧ 0 ≤ a2 ∧ 0 ≤ b2 ∧ Int.gcd a2 b2 = Int.gcd a b ∧ b2 < b', ?_, ?_⟩
      · rintro σ2 H2 ⟨a2, b2, rfl, rfl, h2, h3, h4, h5⟩
        exact ⟨b2.toNat, by omega, a2, b2, rfl, rfl, h2, h3, h4, rfl⟩
      · refine ⟨_, rfl, _, rfl, _, rfl, _, _, rfl, rfl, h1', _, _, rfl, ?_⟩
        exact ⟨b', a' % b', rfl, rfl, hb', Int.emod_nonneg _ (by omega), by rw [gcd_turn ha' h1', hg], Int.emod_lt_of_pos _ h1'⟩
    · have h0 : b' = 0 := by
        have := of_decide_eq_false (by simpa using h1 : decide (0 < b') = false)
        omega
      subst h0
      refine ⟨_, rfl, ?_⟩
      have e : (Int.gcd a b : Int) = a' := by rw [← hg, Int.gcd_zero_right]; omega
      rw [e] at k
      exact k
end
end K08

set_option maxHeartbeats 4000000
namespace K08
open PySem PySem.Spec PyProof.Rows L2 AT
/-! ### lowest terms, as the rationals have them -/
def fac (t b : Int) : Int := if b < 0 then -(Int.gcd t b : Nat) else (Int.gcd t b : Nat)
theorem gcd_pos {t b : Int} (h : b ≠ 0) : 0 < Int.gcd t b := Int.gcd_pos_of_ne_zero_right t h
theorem gcd_le {t b : Int} (h : b ≠ 0) : Int.gcd t b ≤ b.natAbs := Nat.le_of_dvd (Int.natAbs_pos.mpr h) (Int.gcd_dvd_natAbs_right t b)
theorem low_num {t b : Int} (h : b ≠ 0) : t.fdiv (fac t b) = (Rat.divInt t b).num := by
  rw [Rat.num_divInt, Int.gcd_comm b t]
  have hg := gcd_pos (t := t) h
  obtain ⟨c, hc⟩ := Int.gcd_dvd_left t b
  unfold fac
  generalize Int.gcd t b = g at hg hc ⊢
  subst hc
  have g0 : (g : Int) ≠ 0 := by omega
  split
  · rename_i hb
    rw [Int.sign_eq_neg_one_of_neg hb, show ((g : Int) * c) = (-(g : Int)) * (-c) by rw [Int.neg_mul_neg], Int.mul_fdiv_cancel_left _ (by omega), show (-1 * (-(g : Int) * -c)) = (g : Int) * (-c) by rw [Int.neg_mul_neg, Int.mul_neg, Int.neg_one_mul], Int.mul_ediv_cancel_left _ g0]
  · have hb : 0 < b := by omega
    rw [Int.sign_eq_one_of_pos hb, Int.one_mul, Int.mul_fdiv_cancel_left _ g0, Int.mul_ediv_cancel_left _ g0]
theorem low_den {t b : Int} (h : b ≠ 0) : b.fdiv (fac t b) = ((Rat.divInt t b).den : Int) := by
  rw [Rat.den_divInt, if_neg h, Int.gcd_comm b t]
  have hg := gcd_pos (t := t) h
  obtain ⟨c, hc⟩ := Int.gcd_dvd_right t b
  unfold fac
  generalize Int.gcd t b = g at hg hc ⊢
  subst hc
  have g0 : (g : Int) ≠ 0 := by omega
  have e : ((g : Int) * c).natAbs / g = c.natAbs := by rw [Int.natAbs_mul, Int.natAbs_natCast, Nat.mul_div_cancel_left _ hg]
  rw [e]
  split
  · rename_i hb
    rw [show ((g : Int) * c) = (-(g : Int)) * (-c) by rw [Int.neg_mul_neg], Int.mul_fdiv_cancel_left _ (by omega)]
    have : c < 0 := by
      rcases Int.lt_or_le c 0 with z | z
      · exact z
      · have := Int.mul_nonneg (show (0 : Int) ≤ g by omega) z
        omega
    omega
  · rw [Int.mul_fdiv_cancel_left _ g0]
    have : 0 ≤ c := by
      rcases Int.lt_or_le c 0 with z | z
      · have := Int.mul_neg_of_pos_of_neg (show (0 : Int) < g by omega) z
        omega
      · exact z
    omega
theorem den_ne (q : Rat) : (q.den : Int) ≠ 0 := by have := q.den_nz; omega
theorem q_self (q : Rat) : Rat.divInt q.num q.den = q := Rat.num_divInt_den q
theorem q_add (x y : Rat) : Rat.divInt (x.num * y.den + y.num * x.den) (x.den * y.den) = x + y := by
  rw [← Rat.divInt_add_divInt _ _ (den_ne x) (den_ne y), q_self, q_self]
theorem q_neg (x : Rat) : Rat.divInt (-x.num) x.den = -x := by
  rw [← Rat.neg_divInt, q_self]
theorem q_sub (x y : Rat) : Rat.divInt (x.num * y.den - y.num * x.den) (x.den * y.den) = x - y := by
  have h := Rat.divInt_add_divInt x.num (-y.num) (den_ne x) (den_ne y)
  rw [q_self, q_neg] at h
  rw [Rat.sub_eq_add_neg, h, Int.neg_mul, Int.sub_eq_add_neg]
theorem q_mul (x y : Rat) : Rat.divInt (x.num * y.num) (x.den * y.den) = x * y := by
  rw [← Rat.divInt_mul_divInt, q_self, q_self]
theorem q_div (x y : Rat) : Rat.divInt (x.num * y.den) (x.den * y.num) = x / y := by
  rw [← Rat.divInt_mul_divInt, q_self, Rat.div_def, Rat.inv_def]
theorem q_int (i : Int) : Rat.divInt i 1 = (i : Rat) := by
  rw [Rat.divInt_eq_div]
  have : (1 : Rat)⁻¹ = 1 := by decide +kernel
  simp [Rat.div_def, this]
theorem num_ne {y : Rat} (h : y ≠ 0) : y.num ≠ 0 := fun z => h (Rat.num_eq_zero.mp z)
/-- small enough: k bits above and below -/
def Bits (k : Nat) (q : Rat) : Prop := q.num.natAbs < 2 ^ k ∧ q.den < 2 ^ k
theorem Bits.mono {k j : Nat} {q : Rat} (h : Bits k q) (l : k ≤ j) : Bits j q := ⟨Nat.lt_of_lt_of_le h.1 (Nat.pow_le_pow_right (by decide) l), Nat.lt_of_lt_of_le h.2 (Nat.pow_le_pow_right (by decide) l)⟩
theorem bits_of {k : Nat} {t b : Int} (hb : b ≠ 0) (h1 : t.natAbs < 2 ^ k) (h2 : b.natAbs < 2 ^ k) : Bits k (Rat.divInt t b) := by
  have g0 := gcd_pos (t := t) hb
  constructor
  · rw [Rat.num_divInt, Int.gcd_comm b t]
    obtain ⟨c, hc⟩ := Int.gcd_dvd_left t b
    generalize Int.gcd t b = g at g0 hc ⊢
    subst hc
    have e : b.sign * ((g : Int) * c) / g = b.sign * c := by
      rw [show b.sign * ((g : Int) * c) = (g : Int) * (b.sign * c) by rw [← Int.mul_assoc, Int.mul_comm b.sign, Int.mul_assoc], Int.mul_ediv_cancel_left _ (by omega)]
    rw [e]
    refine Nat.lt_of_le_of_lt ?_ h1
    rw [Int.natAbs_mul, Int.natAbs_mul, Int.natAbs_natCast]
    have : b.sign.natAbs ≤ 1 := by
      rw [Int.natAbs_sign]
      split <;> omega
    calc b.sign.natAbs * c.natAbs ≤ 1 * c.natAbs := Nat.mul_le_mul_right _ this
      _ ≤ g * c.natAbs := Nat.mul_le_mul_right _ g0
  · rw [Rat.den_divInt, if_neg hb]
    exact Nat.lt_of_le_of_lt (Nat.div_le_self _ _) h2
theorem mul_bits {i j : Int} {a b : Nat} (ha : i.natAbs < 2 ^ a) (hb : j.natAbs < 2 ^ b) : (i * j).natAbs < 2 ^ (a + b) := by
  rw [Int.natAbs_mul, Nat.pow_add]
  exact Nat.mul_lt_mul'' ha hb
theorem den_bits {k : Nat} {q : Rat} (h : Bits k q) : ((q.den : Int)).natAbs < 2 ^ k := by
  rw [Int.natAbs_natCast]
  exact h.2
theorem Bits.add {a b : Nat} {x y : Rat} (h : Bits a x) (g : Bits b y) : Bits (a + b + 1) (x + y) := by
  rw [← q_add]
  have h1 := mul_bits h.1 (den_bits g)
  have h2 := mul_bits g.1 (den_bits h)
  have h3 := mul_bits (den_bits h) (den_bits g)
  rw [Nat.add_comm b a] at h2
  refine bits_of (Int.mul_ne_zero (den_ne x) (den_ne y)) ?_ ?_
  · rw [Nat.pow_succ]
    omega
  · rw [Nat.pow_succ]
    omega
theorem Bits.sub {a b : Nat} {x y : Rat} (h : Bits a x) (g : Bits b y) : Bits (a + b + 1) (x - y) := by
  rw [← q_sub]
  have h1 := mul_bits h.1 (den_bits g)
  have h2 := mul_bits g.1 (den_bits h)
  have h3 := mul_bits (den_bits h) (den_bits g)
  rw [Nat.add_comm b a] at h2
  refine bits_of (Int.mul_ne_zero (den_ne x) (den_ne y)) ?_ ?_
  · rw [Nat.pow_succ]
    omega
  · rw [Nat.pow_succ]
    omega
theorem Bits.mul {a b : Nat} {x y : Rat} (h : Bits a x) (g : Bits b y) : Bits (a + b) (x * y) := by
  rw [← q_mul]
  exact bits_of (Int.mul_ne_zero (den_ne x) (den_ne y)) (mul_bits h.1 g.1) (mul_bits (den_bits h) (den_bits g))
theorem Bits.div {a b : Nat} {x y : Rat} (h : Bits a x) (g : Bits b y) (hy : y ≠ 0) : Bits (a + b) (x / y) := by
  rw [← q_div]
  exact bits_of (Int.mul_ne_zero (den_ne x) (num_ne hy)) (mul_bits h.1 (den_bits g)) (mul_bits (den_bits h) g.1)
section
variable {P : Program} {w : World} {K : PySem.W.Frag} {mg : Str → Option Value} {base : Heap}
theorem IsQ.up {H H' : Hp} {p : Addr} {q : Rat} (h : IsQ K H p q) (s : Same H H') : IsQ K H' p q := h.imp fun _ e => s _ _ e
theorem IsQ.inj {H : Hp} {p : Addr} {x y : Rat} (h : IsQ K H p x) (g : IsQ K H p y) : x = y := by
  obtain ⟨d, e⟩ := h
  obtain ⟨d', e'⟩ := g
  rw [e] at e'
  simp only [Option.some.injEq, HO.ins.injEq, amtQ, amtF, List.cons.injEq, Prod.mk.injEq, V.int.injEq, and_true, true_and] at e'
  exact Rat.ext e'.2.1 (by have := e'.2.2; omega)
theorem abs_gcd (t b : Int) : Int.gcd (if t < 0 then -t else t) (if b < 0 then -b else b) = Int.gcd t b := by
  have e : ∀ x : Int, (if x < 0 then -x else x).natAbs = x.natAbs := fun x => by split <;> simp
  show Nat.gcd _ _ = Nat.gcd _ _
  rw [e, e]
def badB : V → Bool
  | .int d => decide (d = 0)
  | _ => true
/-- Amount.__init__ -/
def spAmt (K : PySem.W.Frag) : Sp := fun vs H Q E => ∃ p dx t b, vs = [.ref p, t, b] ∧ H p = some (.ins (cA K) dx []) ∧ AnyV K H t ∧ AnyV K H b ∧
  ((∃ n d : Int, t = .int n ∧ b = .int d ∧ d ≠ 0 ∧ d.natAbs < 2 ^ 8000 ∧ Q .non (upd H p (.ins (cA K) dx (amtQ (Rat.divInt n d))))) ∨
    (wholeV t = false ∧ Rf K "InvalidInteger" "value" t H E) ∨ (wholeV t = true ∧ badB b = true ∧ Rf K "InvalidInteger" "value" b H E))
theorem log_lt {n k : Nat} (hk : 0 < k) (h : n < 2 ^ k) : n.log2 < k := PySem.Flt.log2_lt_of hk h
theorem sc_Amount_init_ : FnScope ["self", "top", "bottom", "factor"] ["self", "top", "bottom"] (defScope s_Amount_init_) := ⟨rfl, rfl, rfl, by decide +kernel, rfl, by decide +kernel, by decide +kernel⟩
theorem both_Amount (T : Tx K mg base) : Ok P w K mg base 3 (He.ma K (He.ga K "Amount") "__init__") ["self", "top", "bottom"] (spAmt K) ∧ OkD P w K mg base 3 (He.ma K (He.ga K "Amount") "__init__") ["self", "top", "bottom"] [.int 1] (spAmt K) := by
  refine mk_okD1 (k := 2) (n := 2) T.f_Amount_init_ sc_Amount_init_ rfl (fun _ _ _ _ _ _ _ us u hl => match us, hl with | [_, _], _ => ⟨_, rfl, rfl⟩) (fun _ _ _ _ _ _ _ us u hl => match us, hl with | [_, _, _], _ => ⟨_, rfl, rfl⟩) (fun vs H Q E h => ?_) (fun cdv A outer s H vs Q E hr h => ?_)
  · obtain ⟨p, dx, t, b, rfl, _⟩ := h
    rfl
  · obtain ⟨p, dx, t, b, rfl, hp, ht, hb, hc⟩ := h
    refine ⟨_, (pss_cons (ps_if (pt_not (pt_val (ok_call (ok_is_whole T) (hr.mono (by decide)) rfl T.g_is_whole passL (pa_cons (pv 1) pa_nil)))) (pss_one (ps_rs rfl (mx_InvalidInteger T (hr.mono (by decide))) (takes_of rfl rfl rfl rfl) rfl (pv 1))) pss_nil)
      (pss_cons (ps_if (PW.pt (pw_or (pt_not (pt_val (ok_call (ok_is_whole T) (hr.mono (by decide)) rfl T.g_is_whole passL (pa_cons (pv 2) pa_nil)))) (pw_or1 (pt_cmpR op_eq (pv 2) pe_int (nomark _))))) (pss_one (ps_rs rfl (mx_InvalidInteger T (hr.mono (by decide))) (takes_of rfl rfl rfl rfl) rfl (pv 2))) pss_nil)
      (pss_cons (ps_set (i := 3) sc_Amount_init_.nd rfl (Or.inl rfl) (ok_call (ok_common_factor T) (hr.mono (by decide)) rfl T.g_common_factor passL (pa_cons (pe_callB call_abs (by rfl) T.b_abs (by decide +kernel) (pa_cons (pv 1) pa_nil)) (pa_cons (pe_callB call_abs (by rfl) T.b_abs (by decide +kernel) (pa_cons (pv 2) pa_nil)) pa_nil))))
      (pss_cons (ps_if (pt_cmpR op_lt (pv 2) pe_int (nomark _)) (pss_one (ps_set (i := 3) sc_Amount_init_.nd rfl (Or.inl rfl) (pe_un un_neg (pv 3)))) pss_nil)
      (pss_cons (ps_fld (pv 0) (pe_op op_fdivZ (pv 1) (pv 3)) rfl)
      (pss_one (ps_fld (pv 0) (pe_op op_fdivZ (pv 2) (pv 3)) rfl))))))), ?_⟩
    refine ⟨_, rfl, t, rfl, ht, _, rfl, ?_⟩
    rcases hc with ⟨n, d, rfl, rfl, h0, hbig, k3⟩ | ⟨e, k1⟩ | ⟨e, eb, k2⟩
    · refine iteF ⟨_, rfl, .int d, rfl, hb, _, rfl, iteF ⟨_, rfl, rfl, _, rfl, ?_⟩⟩
      rw [decide_eq_false (fun q => h0 (V.int.inj q))]
      refine iteF ⟨_, rfl, n, rfl, _, rfl, d, rfl, _, _, rfl, (by split <;> omega), (by split <;> omega), ?_⟩
      rw [abs_gcd]
      have key : ∀ f : Int, f = fac n d → f ≠ 0 → f.natAbs.log2 < 9000 → ∀ σ, σ = ([some (.ref p), some (.int n), some (.int d), some (.int f)] : L2.St) →
          tSeq (sFld K (tVar 0) (tOp (rI CDivZ fun i j => .int (i.fdiv j)) (tVar 1) (tVar 3)) "own_top") (sFld K (tVar 0) (tOp (rI CDivZ fun i j => .int (i.fdiv j)) (tVar 2) (tVar 3)) "own_bottom") { nx := fun _ H' => Q .non H', rt := Q } σ H := by
        rintro f rfl hf hl σ rfl
        refine ⟨_, rfl, _, rfl, _, _, rfl, rfl, ⟨hf, hl⟩, _, rfl, p, _, dx, _, rfl, hp, T.cls_Amount, T.no_Amount_own_top, (by decide), ?_⟩
        refine ⟨_, rfl, _, rfl, _, _, rfl, rfl, ⟨hf, hl⟩, _, rfl, p, _, dx, _, rfl, upd_same, T.cls_Amount, T.no_Amount_own_bottom, (by show 1 < 1000; decide), ?_⟩
        rw [upd_upd]
        show Q .non (upd H p (.ins (cA K) dx (amtF (n.fdiv (fac n d)) (d.fdiv (fac n d)))))
        rw [low_num h0, low_den h0]
        exact k3
      have hg := gcd_pos (t := n) h0
      have hle := gcd_le (t := n) h0
      have hlog : (Int.gcd n d).log2 < 9000 := log_lt (by decide) (Nat.lt_of_le_of_lt hle (Nat.lt_trans hbig (Nat.pow_lt_pow_right (by decide) (by decide))))
      refine ⟨_, rfl, _, _, rfl, rfl, _, rfl, ?_⟩
      refine ite2 (fun h1 => ?_) (fun h1 => ?_)
      · have h1' : d < 0 := of_decide_eq_true h1
        refine ⟨_, rfl, _, rfl, ?_⟩
        exact key (-(Int.gcd n d : Nat)) (by unfold fac; rw [if_pos h1']) (by omega) (by rw [Int.natAbs_neg, Int.natAbs_natCast]; exact hlog) _ rfl
      · have h1' : ¬ d < 0 := of_decide_eq_false (by simpa using h1)
        exact key (Int.gcd n d : Nat) (by unfold fac; rw [if_neg h1']) (by omega) (by rw [Int.natAbs_natCast]; exact hlog) _ rfl
    · rw [e]
      exact iteT ⟨_, rfl, mk_at T.xc_InvalidInteger.oex T.xc_InvalidInteger.no (rf_of k1)⟩
    · rw [e]
      refine iteF ⟨_, rfl, b, rfl, hb, _, rfl, ?_⟩
      cases hb with
      | int d =>
        have h0 : d = 0 := of_decide_eq_true eb
        subst h0
        refine iteF ⟨_, rfl, rfl, _, rfl, ?_⟩
        rw [decide_eq_true rfl]
        exact iteT ⟨_, rfl, mk_at T.xc_InvalidInteger.oex T.xc_InvalidInteger.no (rf_of k2)⟩
      | _ => exact iteT (iteT ⟨_, rfl, mk_at T.xc_InvalidInteger.oex T.xc_InvalidInteger.no (rf_of k2)⟩)
theorem ok_Amount_init_ (T : Tx K mg base) : Ok P w K mg base 3 (He.ma K (He.ga K "Amount") "__init__") ["self", "top", "bottom"] (spAmt K) := (both_Amount T).1
theorem okd_Amount_init_ (T : Tx K mg base) : OkD P w K mg base 3 (He.ma K (He.ga K "Amount") "__init__") ["self", "top", "bottom"] [.int 1] (spAmt K) := (both_Amount T).2
theorem made_same {H : Hp} {x dx : Addr} {o1 o2 : HO} (hx : H x = none) (hdx : H dx = none) : Same H (upd (upd (upd H dx (.own x)) x o1) x o2) := AT.Same.new (AT.Same.new (AT.Same.up hdx) hx) hx
end
end K08

set_option maxHeartbeats 4000000
namespace K08
open PySem PySem.Spec PyProof.Rows L2 AT
/-! ### amounts: what a value stands for -/
inductive Qv (K : PySem.W.Frag) (H : Hp) : V → Rat → Prop where
  | obj {a : Addr} {q : Rat} (h : IsQ K H a q) : Qv K H (.ref a) q
  | int (i : Int) : Qv K H (.int i) (i : Rat)
theorem Qv.up {K : PySem.W.Frag} {H H' : Hp} {v : V} {q : Rat} (h : Qv K H v q) (s : Same H H') : Qv K H' v q := by
  cases h with
  | obj h => exact .obj (h.up s)
  | int i => exact .int i
theorem Qv.any {K : PySem.W.Frag} {H : Hp} {v : V} {q : Rat} (h : Qv K H v q) : AnyV K H v := by
  cases h with
  | obj h => exact .amt h
  | int i => exact .int i
def isA (K : PySem.W.Frag) (H : Hp) (v : V) : Prop := ∃ q, Qv K H v q
section
variable {P : Program} {w : World} {K : PySem.W.Frag} {mg : Str → Option Value} {base : Heap}
theorem isi_amt (T : Tx K mg base) {H : Hp} {v : V} (h : AnyV K H v) : ∃ t b, TyX K H v t ∧ PySem.W.kitOne K t (.ref (cA K)) = some b ∧ ((b = true ∧ ∃ a q, v = .ref a ∧ IsQ K H a q) ∨ (b = false ∧ ((∃ i, v = .int i) ∨ (wholeV v = false ∧ ¬ isA K H v)))) := by
  have no : ∀ {a : Addr} {o : HO}, H a = some o → (∀ d fs, o ≠ .ins (cA K) d fs) → ¬ isA K H (.ref a) := by
    rintro a o e hn ⟨q, hq⟩
    cases hq with
    | obj h =>
      obtain ⟨d, z⟩ := h
      rw [e] at z
      cases z
      exact hn _ _ rfl
  cases h with
  | non => exact ⟨_, _, .base .non, T.k_NoneType_Amount, .inr ⟨rfl, .inr ⟨rfl, fun ⟨_, q⟩ => nomatch q⟩⟩⟩
  | bl b => exact ⟨_, _, .base (.bl b), T.k_bool_Amount, .inr ⟨rfl, .inr ⟨rfl, fun ⟨_, q⟩ => nomatch q⟩⟩⟩
  | int i => exact ⟨_, _, .base (.int i), T.k_int_Amount, .inr ⟨rfl, .inl ⟨i, rfl⟩⟩⟩
  | str x => exact ⟨_, _, .base (.str x), T.k_str_Amount, .inr ⟨rfl, .inr ⟨rfl, fun ⟨_, q⟩ => nomatch q⟩⟩⟩
  | lst e => exact ⟨_, _, .base (.lst e), T.k_list_Amount, .inr ⟨rfl, .inr ⟨rfl, no e fun _ _ z => nomatch z⟩⟩⟩
  | tup e => exact ⟨_, _, .base (.tup e), T.k_tuple_Amount, .inr ⟨rfl, .inr ⟨rfl, no e fun _ _ z => nomatch z⟩⟩⟩
  | dct e => exact ⟨_, _, .base (.dK e), T.k_dict_Amount, .inr ⟨rfl, .inr ⟨rfl, no e fun _ _ z => nomatch z⟩⟩⟩
  | amt e =>
    obtain ⟨dx, e1⟩ := id e
    exact ⟨_, _, T.ins_Amount e1, T.k_Amount_Amount, .inl ⟨rfl, _, _, rfl, e⟩⟩
def spTop (K : PySem.W.Frag) : Sp := fun vs H Q _ => ∃ a q, vs = [.ref a] ∧ IsQ K H a q ∧ Q (.int q.num) H
def spBot (K : PySem.W.Frag) : Sp := fun vs H Q _ => ∃ a q, vs = [.ref a] ∧ IsQ K H a q ∧ Q (.int q.den) H
theorem sc_Amount_top : FnScope ["self"] ["self"] (defScope s_Amount_top) := ⟨rfl, rfl, rfl, by decide +kernel, rfl, by decide +kernel, by decide +kernel⟩
theorem ok_Amount_top (T : Tx K mg base) : Ok P w K mg base 1 (d_Amount_top.loc K) ["self"] (spTop K) := by
  refine mk_ok (k := 0) T.f_Amount_top sc_Amount_top (fun _ _ _ _ _ _ us hl => match us, hl with | [_], _ => rfl) (fun vs H Q E h => ?_) (fun cdv A outer s H vs Q E hr h => ?_)
  · obtain ⟨a, q, rfl, _⟩ := h
    rfl
  · obtain ⟨a, q, rfl, ⟨dx, ha⟩, k⟩ := h
    refine ⟨_, (pss_one (ps_ret (pe_fld (pv 0) rfl))), ?_⟩
    exact ⟨_, rfl, a, _, dx, _, _, rfl, ha, T.cls_Amount, T.no_Amount_own_top, rfl, k⟩
theorem sc_Amount_bottom : FnScope ["self"] ["self"] (defScope s_Amount_bottom) := ⟨rfl, rfl, rfl, by decide +kernel, rfl, by decide +kernel, by decide +kernel⟩
theorem ok_Amount_bottom (T : Tx K mg base) : Ok P w K mg base 1 (d_Amount_bottom.loc K) ["self"] (spBot K) := by
  refine mk_ok (k := 0) T.f_Amount_bottom sc_Amount_bottom (fun _ _ _ _ _ _ us hl => match us, hl with | [_], _ => rfl) (fun vs H Q E h => ?_) (fun cdv A outer s H vs Q E hr h => ?_)
  · obtain ⟨a, q, rfl, _⟩ := h
    rfl
  · obtain ⟨a, q, rfl, ⟨dx, ha⟩, k⟩ := h
    refine ⟨_, (pss_one (ps_ret (pe_fld (pv 0) rfl))), ?_⟩
    exact ⟨_, rfl, a, _, dx, _, _, rfl, ha, T.cls_Amount, T.no_Amount_own_bottom, rfl, k⟩
def spFrom (K : PySem.W.Frag) : Sp := fun vs H Q E => ∃ v, vs = [v] ∧ AnyV K H v ∧ ((∃ q, Qv K H v q ∧ ∀ p H', Same H H' → IsQ K H' p q → Q (.ref p) H') ∨ (wholeV v = false ∧ ¬ isA K H v ∧ Rf K "InvalidAmount" "value" v H E))
theorem sc_amount_from : FnScope ["value"] ["value"] (defScope s_amount_from) := ⟨rfl, rfl, rfl, by decide +kernel, rfl, by decide +kernel, by decide +kernel⟩
theorem ok_amount_from (T : Tx K mg base) : Ok P w K mg base 5 (d_amount_from.loc K) ["value"] (spFrom K) := by
  refine mk_ok (k := 4) T.f_amount_from sc_amount_from (fun _ _ _ _ _ _ us hl => match us, hl with | [_], _ => rfl) (fun vs H Q E h => ?_) (fun cdv A outer s H vs Q E hr h => ?_)
  · obtain ⟨v, rfl, _⟩ := h
    rfl
  · obtain ⟨v, rfl, hv, hc⟩ := h
    refine ⟨_, (pss_cons (ps_if (pt_val (pe_callB call_isi (by rfl) T.b_isinstance (by decide +kernel) (pa_cons (pv 0) (pa_cons (pe_gr T.g_Amount) pa_nil)))) (pss_one (ps_ret (pv 0))) pss_nil)
      (pss_cons (ps_if (pt_not (pt_val (ok_call (ok_is_whole T) (hr.mono (by decide)) rfl T.g_is_whole passL (pa_cons (pv 0) pa_nil)))) (pss_one (ps_rs rfl (mx_InvalidAmount T (hr.mono (by decide))) (takes_of rfl rfl rfl rfl) rfl (pv 0))) pss_nil)
      (pss_one (ps_ret (ok_makeD T.mkr_Amount (okd_Amount_init_ T) (hr.mono (by decide)) rfl T.g_Amount (passE rfl rfl rfl rfl) (pa_cons (pv 0) pa_nil)))))), ?_⟩
    obtain ⟨t, b, ty, kit, hb⟩ := isi_amt T hv
    refine ⟨_, rfl, _, _, _, _, _, rfl, .own _, ty, kit, _, rfl, ?_⟩
    rcases hc with ⟨q, hq, k⟩ | ⟨hw, hno, k⟩
    · rcases hb with ⟨rfl, a, q', rfl, ha⟩ | ⟨rfl, hi⟩
      · cases hq with
        | obj h => exact iteT ⟨_, rfl, k a H (Same.refl _) h⟩
      · refine iteF ⟨_, rfl, v, rfl, hv, _, rfl, ?_⟩
        rcases hi with ⟨i, rfl⟩ | ⟨_, hno⟩
        · refine iteF ⟨_, rfl, fun x dx hx hdx hne => ⟨x, dx, _, _, rfl, upd_same, .int _, .int _, .inl ⟨i, 1, rfl, rfl, by decide, by decide +kernel, rfl, ?_⟩⟩⟩
          cases hq
          refine k x _ (made_same hx hdx) ⟨dx, ?_⟩
          rw [upd_same, q_int]
          rfl
        · exact absurd ⟨q, hq⟩ hno
    · rcases hb with ⟨rfl, a, q', rfl, ha⟩ | ⟨rfl, hi⟩
      · exact absurd ⟨_, .obj ha⟩ hno
      · refine iteF ⟨_, rfl, v, rfl, hv, _, rfl, ?_⟩
        rw [hw]
        exact iteT ⟨_, rfl, mk_at T.xc_InvalidAmount.oex T.xc_InvalidAmount.no (rf_of k)⟩
def spIsA (K : PySem.W.Frag) : Sp := fun vs H Q _ => ∃ v, vs = [v] ∧ AnyV K H v ∧ (isA K H v → Q (.bl true) H) ∧ (¬ isA K H v → Q (.bl false) H)
theorem sc_is_amount : FnScope ["value"] ["value"] (defScope s_is_amount) := ⟨rfl, rfl, rfl, by decide +kernel, rfl, by decide +kernel, by decide +kernel⟩
theorem ok_is_amount (T : Tx K mg base) : Ok P w K mg base 2 (d_is_amount.loc K) ["value"] (spIsA K) := by
  refine mk_ok (k := 1) T.f_is_amount sc_is_amount (fun _ _ _ _ _ _ us hl => match us, hl with | [_], _ => rfl) (fun vs H Q E h => ?_) (fun cdv A outer s H vs Q E hr h => ?_)
  · obtain ⟨v, rfl, _⟩ := h
    rfl
  · obtain ⟨v, rfl, hv, k1, k2⟩ := h
    refine ⟨_, (pss_one (ps_ret (pe_or (pe_callB call_isi (by rfl) T.b_isinstance (by decide +kernel) (pa_cons (pv 0) (pa_cons (pe_gr T.g_Amount) pa_nil))) (pe_one (ok_call (ok_is_whole T) (hr.mono (by decide)) rfl T.g_is_whole passL (pa_cons (pv 0) pa_nil)))))), ?_⟩
    obtain ⟨t, b, ty, kit, hb⟩ := isi_amt T hv
    refine ⟨_, rfl, _, _, _, _, _, rfl, .own _, ty, kit, _, rfl, ?_⟩
    rcases hb with ⟨rfl, a, q', rfl, ha⟩ | ⟨rfl, hi⟩
    · exact iteT (k1 ⟨_, .obj ha⟩)
    · refine iteF ⟨_, rfl, v, rfl, hv, ?_⟩
      rcases hi with ⟨i, rfl⟩ | ⟨hw, hno⟩
      · exact k1 ⟨_, .int i⟩
      · rw [hw]
        exact k2 hno
end
end K08

set_option maxHeartbeats 4000000
namespace K08
open PySem PySem.Spec PyProof.Rows L2 AT
section
variable {P : Program} {w : World} {K : PySem.W.Frag} {mg : Str → Option Value} {base : Heap}
theorem mul_ok {i j : Int} (h : i.natAbs < 2 ^ 3000) (g : j.natAbs < 2 ^ 3000) : CMulW i j := wide_mul (a := 3000) (b := 3000) h g (by decide) (by decide) (by decide)
theorem bot_ok {i j : Int} (h : i.natAbs < 2 ^ 3000) (g : j.natAbs < 2 ^ 3000) : (i * j).natAbs < 2 ^ 8000 := Nat.lt_of_lt_of_le (mul_bits h g) (Nat.pow_le_pow_right (by decide) (by decide))
/-- a op b of two amounts: a new amount -/
def spBin (op : Rat → Rat → Rat) (K : PySem.W.Frag) : Sp := fun vs H Q E => ∃ a v x, vs = [.ref a, v] ∧ IsQ K H a x ∧ Bits 3000 x ∧ AnyV K H v ∧
  ((∃ y, Qv K H v y ∧ Bits 3000 y ∧ ∀ p H', Same H H' → H p = none → IsQ K H' p (op x y) → Q (.ref p) H') ∨ (wholeV v = false ∧ ¬ isA K H v ∧ Rf K "InvalidAmount" "value" v H E))
theorem none_of {H H' : Hp} {x : Addr} (s : Same H H') (h : H' x = none) : H x = none := by
  cases q : H x with
  | none => rfl
  | some o => rw [s _ _ q] at h; cases h
theorem sc_Amount_add_ : FnScope ["self", "other", "by"] ["self", "other"] (defScope s_Amount_add_) := ⟨rfl, rfl, rfl, by decide +kernel, rfl, by decide +kernel, by decide +kernel⟩
theorem ok_Amount_add_ (T : Tx K mg base) : Ok P w K mg base 6 (d_Amount_add_.loc K) ["self", "other"] (spBin (fun x y => x + y) K) := by
  refine mk_ok (k := 5) T.f_Amount_add_ sc_Amount_add_ (fun _ _ _ _ _ _ us hl => match us, hl with | [_, _], _ => rfl) (fun vs H Q E h => ?_) (fun cdv A outer s H vs Q E hr h => ?_)
  · obtain ⟨a, v, x, rfl, _⟩ := h
    rfl
  · obtain ⟨a, v, x, rfl, ha, bx, hv, hc⟩ := h
    refine ⟨_, (pss_cons (ps_set (i := 2) sc_Amount_add_.nd rfl (Or.inl rfl) (ok_call (ok_amount_from T) (hr.mono (by decide)) rfl T.g_amount_from (passE rfl rfl rfl rfl) (pa_cons (pv 1) pa_nil)))
      (pss_one (ps_ret (ok_make T.mkr_Amount (ok_Amount_init_ T) (hr.mono (by decide)) rfl T.g_Amount (passE rfl rfl rfl rfl) (pa_cons (pe_op op_add (pe_op op_mulW (pe_fld (pv 0) rfl) (pe_fld (pv 2) rfl)) (pe_op op_mulW (pe_fld (pv 2) rfl) (pe_fld (pv 0) rfl))) (pa_cons (pe_op op_mulW (pe_fld (pv 0) rfl) (pe_fld (pv 2) rfl)) pa_nil)))))), ?_⟩
    rcases hc with ⟨y, hy, by_, k⟩ | ⟨hw, hno, k⟩
    · refine ⟨_, rfl, v, rfl, hv, .inl ⟨y, hy, fun p H1 s1 hq => ?_⟩⟩
      obtain ⟨da, ha1⟩ := ha.up s1
      obtain ⟨dp, hp⟩ := hq
      refine ⟨_, rfl, a, _, da, _, _, rfl, ha1, T.cls_Amount, T.no_Amount_own_top, rfl, _, rfl, p, _, dp, _, _, rfl, hp, T.cls_Amount, T.no_Amount_own_bottom, rfl, _, _, rfl, rfl, mul_ok bx.1 (den_bits by_), ?_⟩
      refine ⟨_, rfl, p, _, dp, _, _, rfl, hp, T.cls_Amount, T.no_Amount_own_top, rfl, _, rfl, a, _, da, _, _, rfl, ha1, T.cls_Amount, T.no_Amount_own_bottom, rfl, _, _, rfl, rfl, mul_ok by_.1 (den_bits bx), ?_⟩
      refine ⟨_, _, rfl, rfl, ?_⟩
      refine ⟨_, rfl, a, _, da, _, _, rfl, ha1, T.cls_Amount, T.no_Amount_own_bottom, rfl, _, rfl, p, _, dp, _, _, rfl, hp, T.cls_Amount, T.no_Amount_own_bottom, rfl, _, _, rfl, rfl, mul_ok (den_bits bx) (den_bits by_), ?_⟩
      refine fun q dq hq hdq hne => ⟨q, dq, _, _, rfl, upd_same, .int _, .int _, .inl ⟨_, _, rfl, rfl, Int.mul_ne_zero (den_ne x) (den_ne y), bot_ok (den_bits bx) (den_bits by_), rfl, ?_⟩⟩
      refine k q _ (s1.trans (made_same hq hdq)) (none_of s1 hq) ⟨dq, ?_⟩
      rw [upd_same, q_add]
      rfl
    · exact ⟨_, rfl, v, rfl, hv, .inr ⟨hw, hno, k⟩⟩
theorem sc_Amount_sub_ : FnScope ["self", "other", "by"] ["self", "other"] (defScope s_Amount_sub_) := ⟨rfl, rfl, rfl, by decide +kernel, rfl, by decide +kernel, by decide +kernel⟩
theorem ok_Amount_sub_ (T : Tx K mg base) : Ok P w K mg base 6 (d_Amount_sub_.loc K) ["self", "other"] (spBin (fun x y => x - y) K) := by
  refine mk_ok (k := 5) T.f_Amount_sub_ sc_Amount_sub_ (fun _ _ _ _ _ _ us hl => match us, hl with | [_, _], _ => rfl) (fun vs H Q E h => ?_) (fun cdv A outer s H vs Q E hr h => ?_)
  · obtain ⟨a, v, x, rfl, _⟩ := h
    rfl
  · obtain ⟨a, v, x, rfl, ha, bx, hv, hc⟩ := h
    refine ⟨_, (pss_cons (ps_set (i := 2) sc_Amount_sub_.nd rfl (Or.inl rfl) (ok_call (ok_amount_from T) (hr.mono (by decide)) rfl T.g_amount_from (passE rfl rfl rfl rfl) (pa_cons (pv 1) pa_nil)))
      (pss_one (ps_ret (ok_make T.mkr_Amount (ok_Amount_init_ T) (hr.mono (by decide)) rfl T.g_Amount (passE rfl rfl rfl rfl) (pa_cons (pe_op op_sub (pe_op op_mulW (pe_fld (pv 0) rfl) (pe_fld (pv 2) rfl)) (pe_op op_mulW (pe_fld (pv 2) rfl) (pe_fld (pv 0) rfl))) (pa_cons (pe_op op_mulW (pe_fld (pv 0) rfl) (pe_fld (pv 2) rfl)) pa_nil)))))), ?_⟩
    rcases hc with ⟨y, hy, by_, k⟩ | ⟨hw, hno, k⟩
    · refine ⟨_, rfl, v, rfl, hv, .inl ⟨y, hy, fun p H1 s1 hq => ?_⟩⟩
      obtain ⟨da, ha1⟩ := ha.up s1
      obtain ⟨dp, hp⟩ := hq
      refine ⟨_, rfl, a, _, da, _, _, rfl, ha1, T.cls_Amount, T.no_Amount_own_top, rfl, _, rfl, p, _, dp, _, _, rfl, hp, T.cls_Amount, T.no_Amount_own_bottom, rfl, _, _, rfl, rfl, mul_ok bx.1 (den_bits by_), ?_⟩
      refine ⟨_, rfl, p, _, dp, _, _, rfl, hp, T.cls_Amount, T.no_Amount_own_top, rfl, _, rfl, a, _, da, _, _, rfl, ha1, T.cls_Amount, T.no_Amount_own_bottom, rfl, _, _, rfl, rfl, mul_ok by_.1 (den_bits bx), ?_⟩
      refine ⟨_, _, rfl, rfl, ?_⟩
      refine ⟨_, rfl, a, _, da, _, _, rfl, ha1, T.cls_Amount, T.no_Amount_own_bottom, rfl, _, rfl, p, _, dp, _, _, rfl, hp, T.cls_Amount, T.no_Amount_own_bottom, rfl, _, _, rfl, rfl, mul_ok (den_bits bx) (den_bits by_), ?_⟩
      refine fun q dq hq hdq hne => ⟨q, dq, _, _, rfl, upd_same, .int _, .int _, .inl ⟨_, _, rfl, rfl, Int.mul_ne_zero (den_ne x) (den_ne y), bot_ok (den_bits bx) (den_bits by_), rfl, ?_⟩⟩
      refine k q _ (s1.trans (made_same hq hdq)) (none_of s1 hq) ⟨dq, ?_⟩
      rw [upd_same, q_sub]
      rfl
    · exact ⟨_, rfl, v, rfl, hv, .inr ⟨hw, hno, k⟩⟩
theorem sc_Amount_mul_ : FnScope ["self", "other", "by"] ["self", "other"] (defScope s_Amount_mul_) := ⟨rfl, rfl, rfl, by decide +kernel, rfl, by decide +kernel, by decide +kernel⟩
theorem ok_Amount_mul_ (T : Tx K mg base) : Ok P w K mg base 6 (d_Amount_mul_.loc K) ["self", "other"] (spBin (fun x y => x * y) K) := by
  refine mk_ok (k := 5) T.f_Amount_mul_ sc_Amount_mul_ (fun _ _ _ _ _ _ us hl => match us, hl with | [_, _], _ => rfl) (fun vs H Q E h => ?_) (fun cdv A outer s H vs Q E hr h => ?_)
  · obtain ⟨a, v, x, rfl, _⟩ := h
    rfl
  · obtain ⟨a, v, x, rfl, ha, bx, hv, hc⟩ := h
    refine ⟨_, (pss_cons (ps_set (i := 2) sc_Amount_mul_.nd rfl (Or.inl rfl) (ok_call (ok_amount_from T) (hr.mono (by decide)) rfl T.g_amount_from (passE rfl rfl rfl rfl) (pa_cons (pv 1) pa_nil)))
      (pss_one (ps_ret (ok_make T.mkr_Amount (ok_Amount_init_ T) (hr.mono (by decide)) rfl T.g_Amount (passE rfl rfl rfl rfl) (pa_cons (pe_op op_mulW (pe_fld (pv 0) rfl) (pe_fld (pv 2) rfl)) (pa_cons (pe_op op_mulW (pe_fld (pv 0) rfl) (pe_fld (pv 2) rfl)) pa_nil)))))), ?_⟩
    rcases hc with ⟨y, hy, by_, k⟩ | ⟨hw, hno, k⟩
    · refine ⟨_, rfl, v, rfl, hv, .inl ⟨y, hy, fun p H1 s1 hq => ?_⟩⟩
      obtain ⟨da, ha1⟩ := ha.up s1
      obtain ⟨dp, hp⟩ := hq
      refine ⟨_, rfl, a, _, da, _, _, rfl, ha1, T.cls_Amount, T.no_Amount_own_top, rfl, _, rfl, p, _, dp, _, _, rfl, hp, T.cls_Amount, T.no_Amount_own_top, rfl, _, _, rfl, rfl, mul_ok bx.1 by_.1, ?_⟩
      refine ⟨_, rfl, a, _, da, _, _, rfl, ha1, T.cls_Amount, T.no_Amount_own_bottom, rfl, _, rfl, p, _, dp, _, _, rfl, hp, T.cls_Amount, T.no_Amount_own_bottom, rfl, _, _, rfl, rfl, mul_ok (den_bits bx) (den_bits by_), ?_⟩
      refine fun q dq hq hdq hne => ⟨q, dq, _, _, rfl, upd_same, .int _, .int _, .inl ⟨_, _, rfl, rfl, Int.mul_ne_zero (den_ne x) (den_ne y), bot_ok (den_bits bx) (den_bits by_), rfl, ?_⟩⟩
      refine k q _ (s1.trans (made_same hq hdq)) (none_of s1 hq) ⟨dq, ?_⟩
      rw [upd_same, q_mul]
      rfl
    · exact ⟨_, rfl, v, rfl, hv, .inr ⟨hw, hno, k⟩⟩
def spDiv (K : PySem.W.Frag) : Sp := fun vs H Q E => ∃ a v x, vs = [.ref a, v] ∧ IsQ K H a x ∧ Bits 3000 x ∧ AnyV K H v ∧
  ((∃ y, Qv K H v y ∧ Bits 3000 y ∧ y ≠ 0 ∧ ∀ p H', Same H H' → H p = none → IsQ K H' p (x / y) → Q (.ref p) H') ∨ (Qv K H v 0 ∧ Rf K "InvalidAmount" "value" v H E) ∨ (wholeV v = false ∧ ¬ isA K H v ∧ Rf K "InvalidAmount" "value" v H E))
theorem sc_Amount_divided : FnScope ["self", "other", "by"] ["self", "other"] (defScope s_Amount_divided) := ⟨rfl, rfl, rfl, by decide +kernel, rfl, by decide +kernel, by decide +kernel⟩
theorem ok_Amount_divided (T : Tx K mg base) : Ok P w K mg base 6 (d_Amount_divided.loc K) ["self", "other"] (spDiv K) := by
  refine mk_ok (k := 5) T.f_Amount_divided sc_Amount_divided (fun _ _ _ _ _ _ us hl => match us, hl with | [_, _], _ => rfl) (fun vs H Q E h => ?_) (fun cdv A outer s H vs Q E hr h => ?_)
  · obtain ⟨a, v, x, rfl, _⟩ := h
    rfl
  · obtain ⟨a, v, x, rfl, ha, bx, hv, hc⟩ := h
    refine ⟨_, (pss_cons (ps_set (i := 2) sc_Amount_divided.nd rfl (Or.inl rfl) (ok_call (ok_amount_from T) (hr.mono (by decide)) rfl T.g_amount_from (passE rfl rfl rfl rfl) (pa_cons (pv 1) pa_nil)))
      (pss_cons (ps_if (pt_cmpR op_eq (pe_fld (pv 2) rfl) pe_int (nomark _)) (pss_one (ps_rs rfl (mx_InvalidAmount T (hr.mono (by decide))) (takes_of rfl rfl rfl rfl) rfl (pv 1))) pss_nil)
      (pss_one (ps_ret (ok_make T.mkr_Amount (ok_Amount_init_ T) (hr.mono (by decide)) rfl T.g_Amount (passE rfl rfl rfl rfl) (pa_cons (pe_op op_mulW (pe_fld (pv 0) rfl) (pe_fld (pv 2) rfl)) (pa_cons (pe_op op_mulW (pe_fld (pv 0) rfl) (pe_fld (pv 2) rfl)) pa_nil))))))), ?_⟩
    rcases hc with ⟨y, hy, by_, y0, k⟩ | ⟨hy, k⟩ | ⟨hw, hno, k⟩
    · refine ⟨_, rfl, v, rfl, hv, .inl ⟨y, hy, fun p H1 s1 hq => ?_⟩⟩
      obtain ⟨da, ha1⟩ := ha.up s1
      obtain ⟨dp, hp⟩ := hq
      refine ⟨_, rfl, p, _, dp, _, _, rfl, hp, T.cls_Amount, T.no_Amount_own_top, rfl, rfl, _, rfl, ?_⟩
      rw [decide_eq_false (fun z => num_ne y0 (V.int.inj z))]
      refine iteF ⟨_, rfl, a, _, da, _, _, rfl, ha1, T.cls_Amount, T.no_Amount_own_top, rfl, _, rfl, p, _, dp, _, _, rfl, hp, T.cls_Amount, T.no_Amount_own_bottom, rfl, _, _, rfl, rfl, mul_ok bx.1 (den_bits by_), ?_⟩
      refine ⟨_, rfl, a, _, da, _, _, rfl, ha1, T.cls_Amount, T.no_Amount_own_bottom, rfl, _, rfl, p, _, dp, _, _, rfl, hp, T.cls_Amount, T.no_Amount_own_top, rfl, _, _, rfl, rfl, mul_ok (den_bits bx) by_.1, ?_⟩
      refine fun q dq hq hdq hne => ⟨q, dq, _, _, rfl, upd_same, .int _, .int _, .inl ⟨_, _, rfl, rfl, Int.mul_ne_zero (den_ne x) (num_ne y0), bot_ok (den_bits bx) by_.1, rfl, ?_⟩⟩
      refine k q _ (s1.trans (made_same hq hdq)) (none_of s1 hq) ⟨dq, ?_⟩
      rw [upd_same, q_div]
      rfl
    · refine ⟨_, rfl, v, rfl, hv, .inl ⟨0, hy, fun p H1 s1 hq => ?_⟩⟩
      obtain ⟨dp, hp⟩ := hq
      refine ⟨_, rfl, p, _, dp, _, _, rfl, hp, T.cls_Amount, T.no_Amount_own_top, rfl, rfl, _, rfl, ?_⟩
      rw [decide_eq_true (show V.int (Rat.num 0) = V.int 0 from rfl)]
      exact iteT ⟨_, rfl, mk_at T.xc_InvalidAmount.oex T.xc_InvalidAmount.no (rf_of (k.up s1))⟩
    · exact ⟨_, rfl, v, rfl, hv, .inr ⟨hw, hno, k⟩⟩
def spNeg (K : PySem.W.Frag) : Sp := fun vs H Q _ => ∃ a x, vs = [.ref a] ∧ IsQ K H a x ∧ Bits 3000 x ∧ ∀ p H', Same H H' → H p = none → IsQ K H' p (-x) → Q (.ref p) H'
theorem sc_Amount_neg_ : FnScope ["self"] ["self"] (defScope s_Amount_neg_) := ⟨rfl, rfl, rfl, by decide +kernel, rfl, by decide +kernel, by decide +kernel⟩
theorem ok_Amount_neg_ (T : Tx K mg base) : Ok P w K mg base 6 (d_Amount_neg_.loc K) ["self"] (spNeg K) := by
  refine mk_ok (k := 5) T.f_Amount_neg_ sc_Amount_neg_ (fun _ _ _ _ _ _ us hl => match us, hl with | [_], _ => rfl) (fun vs H Q E h => ?_) (fun cdv A outer s H vs Q E hr h => ?_)
  · obtain ⟨a, x, rfl, _⟩ := h
    rfl
  · obtain ⟨a, x, rfl, ha, bx, k⟩ := h
    refine ⟨_, (pss_one (ps_ret (ok_make T.mkr_Amount (ok_Amount_init_ T) (hr.mono (by decide)) rfl T.g_Amount (passE rfl rfl rfl rfl) (pa_cons (pe_un un_neg (pe_fld (pv 0) rfl)) (pa_cons (pe_fld (pv 0) rfl) pa_nil))))), ?_⟩
    obtain ⟨da, ha1⟩ := id ha
    refine ⟨_, rfl, a, _, da, _, _, rfl, ha1, T.cls_Amount, T.no_Amount_own_top, rfl, _, rfl, ?_⟩
    refine ⟨_, rfl, a, _, da, _, _, rfl, ha1, T.cls_Amount, T.no_Amount_own_bottom, rfl, ?_⟩
    refine fun q dq hq hdq hne => ⟨q, dq, _, _, rfl, upd_same, .int _, .int _, .inl ⟨_, _, rfl, rfl, den_ne x, Nat.lt_of_lt_of_le (den_bits bx) (Nat.pow_le_pow_right (by decide) (by decide)), rfl, ?_⟩⟩
    refine k q _ (made_same hq hdq) hq ⟨dq, ?_⟩
    rw [upd_same, q_neg]
    rfl
/-- -1, 0, 1 -/
def cmpQ (x y : Rat) : Int := (if y < x then 1 else 0) - (if x < y then 1 else 0)
def spCmp (K : PySem.W.Frag) : Sp := fun vs H Q E => ∃ a v x, vs = [.ref a, v] ∧ IsQ K H a x ∧ Bits 3000 x ∧ AnyV K H v ∧
  ((∃ y, Qv K H v y ∧ Bits 3000 y ∧ ∀ H', Same H H' → Q (.int (cmpQ x y)) H') ∨ (wholeV v = false ∧ ¬ isA K H v ∧ Rf K "InvalidAmount" "value" v H E))
theorem sc_Amount_compare : FnScope ["self", "other", "by", "left", "right"] ["self", "other"] (defScope s_Amount_compare) := ⟨rfl, rfl, rfl, by decide +kernel, rfl, by decide +kernel, by decide +kernel⟩
theorem ok_Amount_compare (T : Tx K mg base) : Ok P w K mg base 6 (d_Amount_compare.loc K) ["self", "other"] (spCmp K) := by
  refine mk_ok (k := 5) T.f_Amount_compare sc_Amount_compare (fun _ _ _ _ _ _ us hl => match us, hl with | [_, _], _ => rfl) (fun vs H Q E h => ?_) (fun cdv A outer s H vs Q E hr h => ?_)
  · obtain ⟨a, v, x, rfl, _⟩ := h
    rfl
  · obtain ⟨a, v, x, rfl, ha, bx, hv, hc⟩ := h
    refine ⟨_, (pss_cons (ps_set (i := 2) sc_Amount_compare.nd rfl (Or.inl rfl) (ok_call (ok_amount_from T) (hr.mono (by decide)) rfl T.g_amount_from (passE rfl rfl rfl rfl) (pa_cons (pv 1) pa_nil)))
      (pss_cons (ps_par (by rfl) sc_Amount_compare.nd (i := 3) (j := 4) rfl rfl (by decide) rfl rfl (pa_cons (pe_op op_mulW (pe_fld (pv 0) rfl) (pe_fld (pv 2) rfl)) (pa_cons (pe_op op_mulW (pe_fld (pv 2) rfl) (pe_fld (pv 0) rfl)) pa_nil)) (by rfl))
      (pss_one (ps_ret (pe_op op_sub (pe_callTy call_int1 (by rfl) T.b_int (by decide +kernel) (pa_cons (pe_cmpR op_gt (pv 3) (pv 4) (nomark _)) pa_nil)) (pe_callTy call_int1 (by rfl) T.b_int (by decide +kernel) (pa_cons (pe_cmpR op_lt (pv 3) (pv 4) (nomark _)) pa_nil))))))), ?_⟩
    rcases hc with ⟨y, hy, by_, k⟩ | ⟨hw, hno, k⟩
    · refine ⟨_, rfl, v, rfl, hv, .inl ⟨y, hy, fun p H1 s1 hq => ?_⟩⟩
      obtain ⟨da, ha1⟩ := ha.up s1
      obtain ⟨dp, hp⟩ := hq
      refine ⟨_, rfl, a, _, da, _, _, rfl, ha1, T.cls_Amount, T.no_Amount_own_top, rfl, _, rfl, p, _, dp, _, _, rfl, hp, T.cls_Amount, T.no_Amount_own_bottom, rfl, _, _, rfl, rfl, mul_ok bx.1 (den_bits by_), ?_⟩
      refine ⟨_, rfl, p, _, dp, _, _, rfl, hp, T.cls_Amount, T.no_Amount_own_top, rfl, _, rfl, a, _, da, _, _, rfl, ha1, T.cls_Amount, T.no_Amount_own_bottom, rfl, _, _, rfl, rfl, mul_ok by_.1 (den_bits bx), _, _, rfl, ?_⟩
      have k2 := k H1 s1
      have e : cmpQ x y = (if decide (y.num * x.den < x.num * y.den) = true then 1 else 0) - (if decide (x.num * y.den < y.num * x.den) = true then 1 else 0) := by
        unfold cmpQ
        simp only [decide_eq_true_eq, Rat.lt_iff]
      rw [e] at k2
      exact ⟨_, rfl, _, rfl, _, _, rfl, rfl, .inr ⟨_, rfl, _, rfl, _, rfl, _, _, rfl, rfl, .inr ⟨_, rfl, _, _, rfl, rfl, k2⟩⟩⟩
    · exact ⟨_, rfl, v, rfl, hv, .inr ⟨hw, hno, k⟩⟩
def spEqA (K : PySem.W.Frag) : Sp := fun vs H Q _ => ∃ a b x y, vs = [.ref a, .ref b] ∧ IsQ K H a x ∧ IsQ K H b y ∧ Q (.bl (decide (x = y))) H
theorem sc_Amount_eq_ : FnScope ["self", "other"] ["self", "other"] (defScope s_Amount_eq_) := ⟨rfl, rfl, rfl, by decide +kernel, rfl, by decide +kernel, by decide +kernel⟩
theorem ok_Amount_eq_ (T : Tx K mg base) : Ok P w K mg base 2 (d_Amount_eq_.loc K) ["self", "other"] (spEqA K) := by
  refine mk_ok (k := 1) T.f_Amount_eq_ sc_Amount_eq_ (fun _ _ _ _ _ _ us hl => match us, hl with | [_, _], _ => rfl) (fun vs H Q E h => ?_) (fun cdv A outer s H vs Q E hr h => ?_)
  · obtain ⟨a, b, x, y, rfl, _⟩ := h
    rfl
  · obtain ⟨a, b, x, y, rfl, ha, hb, k⟩ := h
    refine ⟨_, (pss_cons (ps_if (pt_not (pt_val (pe_callB call_isi (by rfl) T.b_isinstance (by decide +kernel) (pa_cons (pv 1) (pa_cons (pe_gr T.g_Amount) pa_nil))))) (pss_one (ps_ret pe_never)) pss_nil)
      (pss_one (ps_ret (pe_and (pe_cmpR op_eq (pe_fld (pv 0) rfl) (pe_fld (pv 1) rfl) (nomark _)) (pe_one (pe_cmpR op_eq (pe_fld (pv 0) rfl) (pe_fld (pv 1) rfl) (nomark _))))))), ?_⟩
    obtain ⟨da, ha1⟩ := id ha
    obtain ⟨dp, hp⟩ := id hb
    refine ⟨_, rfl, _, _, _, _, _, rfl, .own _, T.ins_Amount hp, T.k_Amount_Amount, _, rfl, iteF ?_⟩
    refine ⟨_, rfl, a, _, da, _, _, rfl, ha1, T.cls_Amount, T.no_Amount_own_top, rfl, _, rfl, b, _, dp, _, _, rfl, hp, T.cls_Amount, T.no_Amount_own_top, rfl, rfl, _, rfl, ?_⟩
    by_cases e : x.num = y.num
    · rw [decide_eq_true (congrArg V.int e)]
      refine iteT ⟨_, rfl, a, _, da, _, _, rfl, ha1, T.cls_Amount, T.no_Amount_own_bottom, rfl, _, rfl, b, _, dp, _, _, rfl, hp, T.cls_Amount, T.no_Amount_own_bottom, rfl, rfl, ?_⟩
      by_cases e2 : x.den = y.den
      · rw [decide_eq_true (show V.int (x.den : Int) = V.int (y.den : Int) by rw [e2])]
        rw [decide_eq_true (Rat.ext e e2)] at k
        exact k
      · rw [decide_eq_false (show ¬ V.int (x.den : Int) = V.int (y.den : Int) from fun z => e2 (by have := V.int.inj z; omega))]
        rw [decide_eq_false (fun z => e2 (by rw [z]))] at k
        exact k
    · rw [decide_eq_false (fun z => e (V.int.inj z))]
      rw [decide_eq_false (fun z => e (by rw [z]))] at k
      exact iteF k
end
end K08

set_option maxHeartbeats 4000000
namespace K08
open PySem PySem.Spec PyProof.Rows L2 AT
section
variable {P : Program} {w : World} {K : PySem.W.Frag} {mg : Str → Option Value} {base : Heap}
/-- a list or a tuple of xs -/
def Sq (H : Hp) (v : V) (xs : List V) : Prop := ∃ a, v = .ref a ∧ (H a = some (.lst xs) ∨ H a = some (.tup xs))
theorem Sq.up {H H' : Hp} {v : V} {xs : List V} (h : Sq H v xs) (s : Same H H') : Sq H' v xs := by
  obtain ⟨a, e, h | h⟩ := h
  · exact ⟨a, e, .inl (s _ _ h)⟩
  · exact ⟨a, e, .inr (s _ _ h)⟩
theorem Sq.inj {H : Hp} {v : V} {xs ys : List V} (h : Sq H v xs) (g : Sq H v ys) : xs = ys := by
  obtain ⟨a, rfl, h⟩ := h
  obtain ⟨b, e, g⟩ := g
  cases e
  rcases h with h | h <;> rcases g with g | g <;> (rw [h] at g; cases g <;> rfl)
theorem isi_seq (T : Tx K mg base) {H : Hp} {v : V} (h : AnyV K H v) : ∃ t b, TyX K H v t ∧ PySem.W.kitAny K t [.type "list", .type "tuple"] = some b ∧ ((b = true ∧ ∃ xs, Sq H v xs) ∨ (b = false ∧ ¬ ∃ xs, Sq H v xs)) := by
  have no : ∀ {o : HO} {a : Addr}, H a = some o → (∀ xs, o ≠ .lst xs ∧ o ≠ .tup xs) → ¬ ∃ xs, Sq H (.ref a) xs := by
    rintro o a e hn ⟨xs, b, q, z⟩
    cases q
    rcases z with z | z
    · rw [e] at z; cases z; exact (hn xs).1 rfl
    · rw [e] at z; cases z; exact (hn xs).2 rfl
  have k2 : ∀ {t : Value} {b c : Bool}, PySem.W.kitOne K t (.type "list") = some b → PySem.W.kitOne K t (.type "tuple") = some c → PySem.W.kitAny K t [.type "list", .type "tuple"] = some (b || c) := by
    intro t b c e1 e2
    simp only [PySem.W.kitAny, e1, e2]
    cases b <;> cases c <;> rfl
  cases h with
  | non => exact ⟨_, _, .base .non, k2 (kit_ty (r := false) (by decide +kernel)) (kit_ty (r := false) (by decide +kernel)), .inr ⟨rfl, fun ⟨_, _, q, _⟩ => nomatch q⟩⟩
  | bl b => exact ⟨_, _, .base (.bl b), k2 (kit_ty (r := false) (by decide +kernel)) (kit_ty (r := false) (by decide +kernel)), .inr ⟨rfl, fun ⟨_, _, q, _⟩ => nomatch q⟩⟩
  | int i => exact ⟨_, _, .base (.int i), k2 (kit_ty (r := false) (by decide +kernel)) (kit_ty (r := false) (by decide +kernel)), .inr ⟨rfl, fun ⟨_, _, q, _⟩ => nomatch q⟩⟩
  | str x => exact ⟨_, _, .base (.str x), k2 (kit_ty (r := false) (by decide +kernel)) (kit_ty (r := false) (by decide +kernel)), .inr ⟨rfl, fun ⟨_, _, q, _⟩ => nomatch q⟩⟩
  | lst e => exact ⟨_, _, .base (.lst e), k2 (kit_ty (r := true) (by decide +kernel)) (kit_ty (r := false) (by decide +kernel)), .inl ⟨rfl, _, _, rfl, .inl e⟩⟩
  | tup e => exact ⟨_, _, .base (.tup e), k2 (kit_ty (r := false) (by decide +kernel)) (kit_ty (r := true) (by decide +kernel)), .inl ⟨rfl, _, _, rfl, .inr e⟩⟩
  | dct e => exact ⟨_, _, .base (.dK e), k2 (kit_ty (r := false) (by decide +kernel)) (kit_ty (r := false) (by decide +kernel)), .inr ⟨rfl, no e fun _ => ⟨(fun z => nomatch z), (fun z => nomatch z)⟩⟩⟩
  | amt e =>
    obtain ⟨dx, e⟩ := e
    exact ⟨_, _, T.ins_Amount e, k2 T.k_Amount_list T.k_Amount_tuple, .inr ⟨rfl, no e fun _ => ⟨(fun z => nomatch z), (fun z => nomatch z)⟩⟩⟩
theorem TyX.new {H : Hp} {v : V} {t : Value} {p : Addr} {o : HO} (hv : AnyV K H v) (hp : H p = none) (T : Tx K mg base) : AnyV K (upd H p o) v := hv.up (AT.Same.up hp)
def spIsList (K : PySem.W.Frag) : Sp := fun vs H Q _ => ∃ v, vs = [v] ∧ AnyV K H v ∧ ((∃ xs, Sq H v xs) → ∀ H', Same H H' → Q (.bl true) H') ∧ ((¬ ∃ xs, Sq H v xs) → ∀ H', Same H H' → Q (.bl false) H')
theorem sc_is_list : FnScope ["value"] ["value"] (defScope s_is_list) := ⟨rfl, rfl, rfl, by decide +kernel, rfl, by decide +kernel, by decide +kernel⟩
theorem ok_is_list (T : Tx K mg base) : Ok P w K mg base 1 (d_is_list.loc K) ["value"] (spIsList K) := by
  refine mk_ok (k := 0) T.f_is_list sc_is_list (fun _ _ _ _ _ _ us hl => match us, hl with | [_], _ => rfl) (fun vs H Q E h => ?_) (fun cdv A outer s H vs Q E hr h => ?_)
  · obtain ⟨v, rfl, _⟩ := h
    rfl
  · obtain ⟨v, rfl, hv, k1, k2⟩ := h
    refine ⟨_, (pss_one (ps_ret (pe_callB call_isiT (by rfl) T.b_isinstance (by decide +kernel) (pa_cons (pv 0) (pa_cons (pe_tup (pa_cons (pe_bltn (v := .ty "list") rfl T.b_list (by decide +kernel) rfl) (pa_cons (pe_bltn (v := .ty "tuple") rfl T.b_tuple (by decide +kernel) rfl) pa_nil))) pa_nil))))), ?_⟩
    refine ⟨_, rfl, (by show 2 ≤ sizeLine; decide), fun p hp => ?_⟩
    have s1 : Same H (upd H p (.tup [.ty "list", .ty "tuple"])) := AT.Same.up hp
    obtain ⟨t, b, ty, kit, hb⟩ := isi_seq T (hv.up s1)
    refine ⟨_, p, _, _, _, _, rfl, upd_same, .cons (.ty _) (.cons (.ty _) .nil), ty, kit, ?_⟩
    rcases hb with ⟨rfl, xs, hs⟩ | ⟨rfl, hn⟩
    · by_cases z : ∃ xs, Sq H v xs
      · exact k1 z _ s1
      · exfalso
        obtain ⟨a, rfl, hs⟩ := hs
        refine z ⟨xs, a, rfl, ?_⟩
        have ne : a ≠ p := by
          rintro rfl
          cases hv with
          | lst e => rw [e] at hp; cases hp
          | tup e => rw [e] at hp; cases hp
          | dct e => rw [e] at hp; cases hp
          | amt e => obtain ⟨_, e⟩ := e; rw [e] at hp; cases hp
        rw [upd_ne ne] at hs
        exact hs
    · exact k2 (fun ⟨xs, z⟩ => hn ⟨xs, z.up s1⟩) _ s1
def spIsRow (K : PySem.W.Frag) : Sp := fun vs H Q _ => ∃ v, ∃ m : Nat, vs = [v, .int m] ∧ AnyV K H v ∧ (∀ xs, Sq H v xs → ∀ H', Same H H' → Q (.bl (decide (xs.length = m))) H') ∧ ((¬ ∃ xs, Sq H v xs) → ∀ H', Same H H' → Q (.bl false) H')
theorem sc_is_row : FnScope ["value", "many"] ["value", "many"] (defScope s_is_row) := ⟨rfl, rfl, rfl, by decide +kernel, rfl, by decide +kernel, by decide +kernel⟩
theorem ok_is_row (T : Tx K mg base) : Ok P w K mg base 2 (d_is_row.loc K) ["value", "many"] (spIsRow K) := by
  refine mk_ok (k := 1) T.f_is_row sc_is_row (fun _ _ _ _ _ _ us hl => match us, hl with | [_, _], _ => rfl) (fun vs H Q E h => ?_) (fun cdv A outer s H vs Q E hr h => ?_)
  · obtain ⟨v, m, rfl, _⟩ := h
    rfl
  · obtain ⟨v, m, rfl, hv, k1, k2⟩ := h
    refine ⟨_, (pss_one (ps_ret (pe_and (ok_call (ok_is_list T) (hr.mono (by decide)) rfl T.g_is_list passL (pa_cons (pv 0) pa_nil)) (pe_one (pe_cmpR op_eq (pe_callB call_len_seq (by rfl) T.b_len (by decide +kernel) (pa_cons (pv 0) pa_nil)) (pv 1) (nomark _)))))), ?_⟩
    refine ⟨_, rfl, v, rfl, hv, fun ⟨xs, hx⟩ H1 s1 => ?_, fun hn H1 s1 => ?_⟩
    · refine ⟨_, rfl, iteT ?_⟩
      obtain ⟨a, rfl, ha⟩ := hx.up s1
      have e : ∀ n : Nat, decide (V.int (n : Int) = V.int (m : Int)) = decide (n = m) := fun n => by
        by_cases z : n = m
        · rw [z]; simp
        · rw [decide_eq_false z, decide_eq_false (fun q => z (by have := V.int.inj q; omega))]
      refine ⟨_, rfl, a, _, rfl, ha.imp SqL.of SqT.of, _, rfl, rfl, ?_⟩
      rw [e]
      exact k1 xs hx _ s1
    · exact ⟨_, rfl, iteF (k2 hn _ s1)⟩
end
end K08

set_option maxHeartbeats 4000000
namespace K08
open PySem PySem.Spec PyProof.Rows L2 AT
section
variable {P : Program} {w : World} {K : PySem.W.Frag} {mg : Str → Option Value} {base : Heap}
/-- a point of a map, as the program keeps it -/
def Pt (K : PySem.W.Frag) (H : Hp) (v : V) (p : Rat × Rat) : Prop := ∃ t x y : Addr, v = .ref t ∧ H t = some (.tup [.ref x, .ref y]) ∧ IsQ K H x p.1 ∧ IsQ K H y p.2
theorem Pt.up {H H' : Hp} {v : V} {p : Rat × Rat} (h : Pt K H v p) (s : Same H H') : Pt K H' v p := by
  obtain ⟨t, x, y, e, h1, h2, h3⟩ := h
  exact ⟨t, x, y, e, s _ _ h1, h2.up s, h3.up s⟩
inductive Pts (K : PySem.W.Frag) (H : Hp) : List V → List (Rat × Rat) → Prop
  | nil : Pts K H [] []
  | cons {v : V} {p : Rat × Rat} {vs : List V} {ps : List (Rat × Rat)} : Pt K H v p → Pts K H vs ps → Pts K H (v :: vs) (p :: ps)
theorem Pts.up {H H' : Hp} {vs : List V} {ps : List (Rat × Rat)} (h : Pts K H vs ps) (s : Same H H') : Pts K H' vs ps := by
  induction h with
  | nil => exact .nil
  | cons a b ih => exact .cons (a.up s) ih
theorem Pts.app {H : Hp} {vs : List V} {ps : List (Rat × Rat)} {v : V} {p : Rat × Rat} (h : Pts K H vs ps) (g : Pt K H v p) : Pts K H (vs ++ [v]) (ps ++ [p]) := by
  induction h with
  | nil => exact .cons g .nil
  | cons a b ih => exact .cons a ih
theorem Pts.length {H : Hp} {vs : List V} {ps : List (Rat × Rat)} (h : Pts K H vs ps) : vs.length = ps.length := by
  induction h with
  | nil => rfl
  | cons a b ih => simp [ih]
theorem Pts.get {H : Hp} {vs : List V} {ps : List (Rat × Rat)} (h : Pts K H vs ps) : ∀ {i : Nat} {p : Rat × Rat}, ps[i]? = some p → ∃ v, vs[i]? = some v ∧ Pt K H v p := by
  induction h with
  | nil => intro i p e; simp at e
  | cons a b ih =>
    intro i p e
    cases i with
    | zero => simp at e; subst e; exact ⟨_, rfl, a⟩
    | succ i => simpa using ih (by simpa using e)
/-- an item that is a point: a row of two amounts -/
def Item (K : PySem.W.Frag) (H : Hp) (v : V) (p : Rat × Rat) : Prop := ∃ x y, Sq H v [x, y] ∧ Qv K H x p.1 ∧ Qv K H y p.2
/-- an item that is none -/
def NoItem (K : PySem.W.Frag) (H : Hp) (v : V) : Prop := AnyV K H v ∧ ((¬ ∃ xs, Sq H v xs) ∨ (∃ xs, Sq H v xs ∧ xs.length ≠ 2) ∨ ∃ x y, Sq H v [x, y] ∧ AnyV K H x ∧ AnyV K H y ∧ (¬ isA K H x ∨ (isA K H x ∧ ¬ isA K H y)))
def Below (p q : Rat × Rat) : Prop := p.1 < q.1 ∧ p.2 < q.2
def BitsP (k : Nat) (p : Rat × Rat) : Prop := Bits k p.1 ∧ Bits k p.2
def Rising : List (Rat × Rat) → Prop
  | [] => True
  | [_] => True
  | p :: q :: r => Below p q ∧ Rising (q :: r)
/-- how the walk over the items ends: ps the points ahead of it -/
def ChkEnd (K : PySem.W.Frag) (H : Hp) (xs : List V) (ps : List (Rat × Rat)) (Q : VK) (E : XK) : Prop :=
  (ps.length = xs.length ∧ ∀ (D : Addr) (vs : List V) (H' : Hp), Same H H' → H D = none → H' D = some (.lst vs) → Pts K H' vs ps → Q (.ref D) H') ∨
  (∃ v, xs[ps.length]? = some v ∧ NoItem K H v ∧ Rf K "InvalidPoint" "value" v H E) ∨
  (∃ v p q, xs[ps.length]? = some v ∧ Item K H v q ∧ BitsP 3000 q ∧ ps.getLast? = some p ∧ ¬ Below p q ∧ Rf K "Falling" "index" (.int (ps.length : Nat)) H E)
theorem Pt.set {H : Hp} {v : V} {p : Rat × Rat} {D : Addr} {ys zs : List V} (h : Pt K H v p) (hD : H D = some (.lst ys)) : Pt K (upd H D (.lst zs)) v p := by
  obtain ⟨t, x, y, e, h1, ⟨d2, h2⟩, ⟨d3, h3⟩⟩ := h
  have n1 : t ≠ D := by rintro rfl; rw [h1] at hD; cases hD
  have n2 : x ≠ D := by rintro rfl; rw [h2] at hD; cases hD
  have n3 : y ≠ D := by rintro rfl; rw [h3] at hD; cases hD
  exact ⟨t, x, y, e, by rw [upd_ne n1]; exact h1, ⟨d2, by rw [upd_ne n2]; exact h2⟩, ⟨d3, by rw [upd_ne n3]; exact h3⟩⟩
theorem Pts.set {H : Hp} {vs : List V} {ps : List (Rat × Rat)} {D : Addr} {ys zs : List V} (h : Pts K H vs ps) (hD : H D = some (.lst ys)) : Pts K (upd H D (.lst zs)) vs ps := by
  induction h with
  | nil => exact .nil
  | cons a b ih => exact .cons (a.set hD) ih
theorem Item.up {H H' : Hp} {v : V} {p : Rat × Rat} (h : Item K H v p) (s : Same H H') : Item K H' v p := by
  obtain ⟨x, y, h1, h2, h3⟩ := h
  exact ⟨x, y, h1.up s, h2.up s, h3.up s⟩
theorem Sq.any {H : Hp} {v : V} {xs : List V} (h : Sq H v xs) : AnyV K H v := by
  obtain ⟨a, rfl, h | h⟩ := h
  · exact .lst h
  · exact .tup h
theorem Rising.step : ∀ {ps : List (Rat × Rat)} {i : Nat} {p q : Rat × Rat}, Rising ps → ps[i]? = some p → ps[i + 1]? = some q → Below p q
  | p :: q :: r, 0, _, _, h, e1, e2 => by
    simp at e1 e2
    subst e1 e2
    exact h.1
  | p :: q :: r, i + 1, _, _, h, e1, e2 => Rising.step h.2 (by simpa using e1) (by simpa using e2)
  | [p], 0, _, _, _, _, e2 => by simp at e2
  | [p], i + 1, _, _, _, e1, _ => by simp at e1
  | [], i, _, _, _, e1, _ => by simp at e1
theorem cmp_neg (x y : Rat) : decide (cmpQ x y < 0) = decide (x < y) := by
  unfold cmpQ
  by_cases h : x < y
  · have h2 : ¬ y < x := by grind
    simp [h, h2]
  · simp [h]
    split <;> decide
theorem at_last {α : Type} {l : List α} {x : α} (h : l.getLast? = some x) : atI l (-1) = some x := by
  have hn : l ≠ [] := by rintro rfl; simp at h
  have hl : 0 < l.length := List.length_pos_iff.mpr hn
  unfold atI ixN
  rw [if_neg (by decide)]
  rw [List.getLast?_eq_getElem?] at h
  have e : (-1 + (l.length : Int)).toNat = l.length - 1 := by omega
  split
  · simp only [Option.bind_some]
    rw [e]
    exact h
  · omega
theorem Pts.last {H : Hp} {vs : List V} {ps : List (Rat × Rat)} (h : Pts K H vs ps) (hn : vs ≠ []) : ∃ v p, vs.getLast? = some v ∧ ps.getLast? = some p ∧ Pt K H v p := by
  have e := h.length
  have hl : 0 < vs.length := List.length_pos_iff.mpr hn
  obtain ⟨v, hv, pt⟩ := h.get (i := ps.length - 1) (List.getElem?_eq_getElem (by omega))
  refine ⟨v, _, ?_, ?_, pt⟩
  · rw [List.getLast?_eq_getElem?, e]
    exact hv
  · rw [List.getLast?_eq_getElem?]
    exact List.getElem?_eq_getElem (by omega)
theorem tyV_lst {H : Hp} {D : Addr} {vs : List V} (h : H D = some (.lst vs)) : tyV K "list" (.ref D) H := .inl ⟨rfl, vs, SqL.of h⟩
theorem noSq_up {H H' : Hp} {v : V} (hv : AnyV K H v) (h : ¬ ∃ xs, Sq H v xs) (s : Same H H') : ¬ ∃ xs, Sq H' v xs := by
  rintro ⟨xs, a, e, z⟩
  cases hv with
  | lst e1 => exact h ⟨_, _, rfl, .inl e1⟩
  | tup e1 => exact h ⟨_, _, rfl, .inr e1⟩
  | dct e1 => cases e; rw [s _ _ e1] at z; rcases z with z | z <;> cases z
  | amt e1 => obtain ⟨_, e1⟩ := e1; cases e; rw [s _ _ e1] at z; rcases z with z | z <;> cases z
  | _ => cases e
theorem noA_up {H H' : Hp} {v : V} (hv : AnyV K H v) (h : ¬ isA K H v) (s : Same H H') : ¬ isA K H' v := by
  rintro ⟨q, z⟩
  cases hv with
  | lst e1 => cases z with | obj z => obtain ⟨_, z⟩ := z; rw [s _ _ e1] at z; cases z
  | tup e1 => cases z with | obj z => obtain ⟨_, z⟩ := z; rw [s _ _ e1] at z; cases z
  | dct e1 => cases z with | obj z => obtain ⟨_, z⟩ := z; rw [s _ _ e1] at z; cases z
  | amt e1 => exact h ⟨_, .obj e1⟩
  | int i => exact h ⟨_, .int i⟩
  | _ => cases z
theorem isA_up {H H' : Hp} {v : V} (h : isA K H v) (s : Same H H') : isA K H' v := h.imp fun _ z => z.up s
def spChk (K : PySem.W.Frag) : Sp := fun vs H Q E => ∃ v, vs = [v] ∧ AnyV K H v ∧ (((¬ ∃ xs, Sq H v xs) ∧ Rf K "InvalidPart" "value" v H E) ∨
  ∃ xs ps, Sq H v xs ∧ xs.length < 1000 ∧ (∀ (i : Nat) (p : Rat × Rat), ps[i]? = some p → BitsP 3000 p ∧ ∃ x, xs[i]? = some x ∧ Item K H x p) ∧ Rising ps ∧ ChkEnd K H xs ps Q E)
theorem sc_checked_points : FnScope ["points", "found", "index", "item", "beat", "second"] ["points"] (defScope s_checked_points) := ⟨rfl, rfl, rfl, by decide +kernel, rfl, by decide +kernel, by decide +kernel⟩
theorem ok_checked_points (T : Tx K mg base) : Ok P w K mg base 7 (d_checked_points.loc K) ["points"] (spChk K) := by
  refine mk_ok (k := 6) T.f_checked_points sc_checked_points (fun _ _ _ _ _ _ us hl => match us, hl with | [_], _ => rfl) (fun vs H Q E h => ?_) (fun cdv A outer s H vs Q E hr h => ?_)
  · obtain ⟨v, rfl, _⟩ := h
    rfl
  · obtain ⟨v, rfl, hv, hc⟩ := h
    refine ⟨_, (pss_cons (ps_if (pt_not (pt_val (ok_call (ok_is_list T) (hr.mono (by decide)) rfl T.g_is_list passL (pa_cons (pv 0) pa_nil)))) (pss_one (ps_rs rfl (mx_InvalidPart T (hr.mono (by decide))) (takes_of rfl rfl rfl rfl) rfl (pv 0))) pss_nil)
      (pss_cons (ps_set (i := 1) sc_checked_points.nd rfl (Or.inl rfl) (pe_lst pa_nil))
      (pss_cons (ps_for (passes_of rfl) rfl (pi_enumA (by rfl) T.b_enumerate (pa_cons (pv 0) pa_nil)) (pg_tup rfl (pgs_cons (pg_name (i := 2) sc_checked_points.nd rfl (Or.inl rfl)) (pgs_cons (pg_name (i := 3) sc_checked_points.nd rfl (Or.inl rfl)) pgs_nil))) (pss_cons (ps_if (PW.pt (pw_or (pt_not (pt_val (ok_call (ok_is_row T) (hr.mono (by decide)) rfl T.g_is_row passL (pa_cons (pv 3) (pa_cons pe_int pa_nil))))) (pw_or (pt_not (pt_val (ok_call (ok_is_amount T) (hr.mono (by decide)) rfl T.g_is_amount passL (pa_cons (pe_ix ix_sq (pv 3) pe_int (fun _ _ => rfl)) pa_nil)))) (pw_or1 (pt_not (pt_val (ok_call (ok_is_amount T) (hr.mono (by decide)) rfl T.g_is_amount passL (pa_cons (pe_ix ix_sq (pv 3) pe_int (fun _ _ => rfl)) pa_nil)))))))) (pss_one (ps_rs rfl (mx_InvalidPoint T (hr.mono (by decide))) (takes_of rfl rfl rfl rfl) rfl (pv 3))) pss_nil)
      (pss_cons (ps_par (by rfl) sc_checked_points.nd (i := 4) (j := 5) rfl rfl (by decide) rfl rfl (pa_cons (ok_call (ok_amount_from T) (hr.mono (by decide)) rfl T.g_amount_from (passE rfl rfl rfl rfl) (pa_cons (pe_ix ix_sq (pv 3) pe_int (fun _ _ => rfl)) pa_nil)) (pa_cons (ok_call (ok_amount_from T) (hr.mono (by decide)) rfl T.g_amount_from (passE rfl rfl rfl rfl) (pa_cons (pe_ix ix_sq (pv 3) pe_int (fun _ _ => rfl)) pa_nil)) pa_nil)) (by rfl))
      (Evl.pss_cut (ps_if (PW.pt (pw_and (pt_truth (pv 1) (by intro _; rfl)) (pw_and1 (pt_not (PW.pt (pw_and (pt_cmpR op_lt (ok_meth T.cls_Amount T.m_Amount_compare (ok_Amount_compare T) (hr.mono (by decide)) (passE rfl rfl rfl rfl) (pe_ix ix_tup (pe_ix ix_list (pv 1) (pe_un un_neg pe_int) (fun _ _ => rfl)) pe_int (fun _ _ => rfl)) (pa_cons (pv 4) pa_nil)) pe_int (nomark _)) (pw_and1 (pt_cmpR op_lt (ok_meth T.cls_Amount T.m_Amount_compare (ok_Amount_compare T) (hr.mono (by decide)) (passE rfl rfl rfl rfl) (pe_ix ix_tup (pe_ix ix_list (pv 1) (pe_un un_neg pe_int) (fun _ _ => rfl)) pe_int (fun _ _ => rfl)) (pa_cons (pv 5) pa_nil)) pe_int (nomark _))))))))) (pss_one (ps_rs rfl (mx_Falling T (hr.mono (by decide))) (takes_of rfl rfl rfl rfl) rfl (pv 2))) pss_nil)
      (pss_one (ps_expr (pe_bm PySem.F.plainAttrs_list PySem.F.slot_list_append PySem.F.type_list_append mt_append (pv 1) (pa_cons (pe_tup (pa_cons (pv 4) (pa_cons (pv 5) pa_nil))) pa_nil))))))))
      (pss_one (ps_ret (pv 1)))))), ?_⟩
    rcases hc with ⟨hn, k⟩ | ⟨xs, ps, hx, hlen, hps, hris, hend⟩
    · refine ⟨_, rfl, v, rfl, hv, fun z => absurd z hn, fun _ H1 s1 => ⟨_, rfl, iteT ?_⟩⟩
      exact ⟨_, rfl, mk_at T.xc_InvalidPart.oex T.xc_InvalidPart.no (rf_of (k.up s1))⟩
    · refine ⟨_, rfl, v, rfl, hv, fun _ H1 s1 => ⟨_, rfl, iteF ?_⟩, fun z => absurd ⟨xs, hx⟩ z⟩
      refine ⟨Nat.zero_le _, fun D hD => ?_⟩
      obtain ⟨a, rfl, ha⟩ := hx.up s1
      have haD : ∀ H' : Hp, Same H1 H' → H' a = some (.lst xs) ∨ H' a = some (.tup xs) := fun H' s => ha.imp (s _ _) (s _ _)
      refine ⟨_, rfl, a, xs, rfl, (haD _ (AT.Same.up hD)).imp SqL.of SqT.of, fun J hJ => ?_⟩
      obtain ⟨G, wk, hG0⟩ := en_walk hJ
      have hG : ∀ H', Same H1 H' → G H' := fun H' s => hG0 H' (by
        rcases ha with z | z <;> rw [s _ _ z, (AT.Same.up hD) _ _ z])
      have hsz : sizeLine = 16777216 := sizeLine_eq
      refine for_it wk (fun i σ' H' => ∃ (o2 o3 o4 o5 : Option V) (vs : List V), σ' = ([some (.ref a), some (.ref D), o2, o3, o4, o5] : L2.St) ∧ Same H1 H' ∧ H' D = some (.lst vs) ∧ i ≤ ps.length ∧ Pts K H' vs (ps.take i)) ⟨_, _, _, _, [], rfl, AT.Same.up hD, upd_same, Nat.zero_le _, .nil⟩ ?_ ?_ ?_
      · rintro i σ' H' hi ⟨o2, o3, o4, o5, vs, rfl, sm, hl, hip, hp⟩
        exact hG _ sm
      · rintro i x σ' H' H2 hi ⟨o2, o3, o4, o5, vs, rfl, sm, hl, hip, hp⟩ ⟨Tp, x0, y0, rfl, hTp, rfl, e0, hy0⟩
        cases e0
        have s2 : Same H' (upd H' Tp (.tup [.int (i : Nat), y0])) := AT.Same.up hTp
        have hl2 : upd H' Tp (.tup [.int (i : Nat), y0]) D = some (.lst vs) := s2 _ _ hl
        have hp2 := hp.up s2
        have sm2 : Same H (upd H' Tp (.tup [.int (i : Nat), y0])) := (s1.trans sm).trans s2
        have sm3 : Same H1 (upd H' Tp (.tup [.int (i : Nat), y0])) := sm.trans s2
        refine ⟨Tp, _, rfl, SqT.of upd_same, rfl, _, _, rfl, _, _, rfl, rfl, ?_⟩
        generalize upd H' Tp (.tup [.int (i : Nat), y0]) = Ha at hl2 hp2 sm2 sm3 ⊢
        clear hp hl s2 hTp sm
        have hy0 : xs[i]? = some y0 := hy0
        have kind : (∃ q, Item K H y0 q ∧ BitsP 3000 q ∧ ((ps[i]? = some q) ∨ (i = ps.length ∧ ∃ p, ps.getLast? = some p ∧ ¬ Below p q ∧ Rf K "Falling" "index" (.int (i : Nat)) H E))) ∨ (NoItem K H y0 ∧ Rf K "InvalidPoint" "value" y0 H E) := by
          by_cases hi2 : i < ps.length
          · have hpi : ps[i]? = some ps[i] := List.getElem?_eq_getElem hi2
            obtain ⟨bq, y1, hy1, it⟩ := hps i _ hpi
            rw [hy0] at hy1
            cases hy1
            exact .inl ⟨_, it, bq, .inl hpi⟩
          · have ei : i = ps.length := by omega
            subst ei
            rcases hend with ⟨e, _⟩ | ⟨v, z, n, k⟩ | ⟨v, p, q, z, it, bq, lp, nb, k⟩
            · omega
            · rw [hy0] at z
              cases z
              exact .inr ⟨n, k⟩
            · rw [hy0] at z
              cases z
              exact .inl ⟨q, it, bq, .inr ⟨rfl, p, lp, nb, k⟩⟩
        rcases kind with ⟨q, it, bq, hq⟩ | ⟨⟨av, bad⟩, k⟩
        · obtain ⟨x1, x2, hsq, q1, q2⟩ := it.up sm2
          obtain ⟨b, rfl, hb⟩ := id hsq
          refine ⟨_, rfl, .ref b, 2, rfl, hsq.any, fun ys hy Hb sb => ?_, fun hn => absurd ⟨_, hsq⟩ hn⟩
          rw [← hsq.inj hy]
          have hbB := hb.imp (sb _ _) (sb _ _)
          refine ⟨_, rfl, iteF ⟨_, rfl, b, _, 0, x1, rfl, rfl, hbB.imp SqL.of SqT.of, rfl, x1, rfl, q1.any.up sb, fun _ => ?_, fun hn => absurd ⟨_, q1.up sb⟩ hn⟩⟩
          refine ⟨_, rfl, iteF ⟨_, rfl, b, _, 1, x2, rfl, rfl, hbB.imp SqL.of SqT.of, rfl, x2, rfl, q2.any.up sb, fun _ => ?_, fun hn => absurd ⟨_, q2.up sb⟩ hn⟩⟩
          refine ⟨_, rfl, iteF ?_⟩
          refine ⟨_, rfl, b, _, 0, x1, rfl, rfl, hbB.imp SqL.of SqT.of, rfl, x1, rfl, q1.any.up sb, .inl ⟨_, q1.up sb, fun pa Hc sc hA => ?_⟩⟩
          have hbC := hbB.imp (sc _ _) (sc _ _)
          refine ⟨_, rfl, b, _, 1, x2, rfl, rfl, hbC.imp SqL.of SqT.of, rfl, x2, rfl, (q2.any.up sb).up sc, .inl ⟨_, (q2.up sb).up sc, fun pb Hd sd hB => ?_⟩⟩
          refine ⟨_, _, rfl, ?_⟩
          have hA := hA.up sd
          have sx := (sb.trans sc).trans sd
          have hlD := sx _ _ hl2
          have hpD := hp2.up sx
          have smD := sm2.trans sx
          have smD1 := sm3.trans sx
          refine ⟨fun σ3 H3 => σ3 = ([some (.ref a), some (.ref D), some (.int (i : Nat)), some (.ref b), some (.ref pa), some (.ref pb)] : L2.St) ∧ Same Hd H3 ∧ (ps[i]? = some q), ?_, ?_⟩
          · refine ⟨_, rfl, !vs.isEmpty, .inl ⟨vs, SqL.of hlD, rfl⟩, ?_⟩
            cases hvs : vs.isEmpty with
            | true =>
              have e0 : vs = [] := by simpa using hvs
              refine iteF (iteF ⟨rfl, Same.refl _, ?_⟩)
              rcases hq with z | ⟨e1, p, lp, _⟩
              · exact z
              · exfalso
                have z := hpD.length
                rw [e1, List.take_length, e0] at z
                have z2 : ps = [] := List.length_eq_zero_iff.mp z.symm
                rw [z2] at lp
                simp at lp
            | false =>
              have e0 : vs ≠ [] := by rintro rfl; simp at hvs
              obtain ⟨lv, lp, hlv, hlp, hpt⟩ := hpD.last e0
              obtain ⟨tt, xa, ya, rfl, ht, hxa, hya⟩ := id hpt
              obtain ⟨da, hxa1⟩ := id hxa
              have bl : BitsP 3000 lp := by
                have m1 := List.mem_of_mem_take (List.mem_of_getLast? hlp)
                obtain ⟨j, hj⟩ := List.getElem?_of_mem m1
                exact (hps j lp hj).1
              have out : ¬ Below lp q → Rf K "Falling" "index" (.int (i : Nat)) H E := fun nb => by
                rcases hq with z | ⟨e1, p, hp1, nb1, k⟩
                · exfalso
                  apply nb
                  have li : i < ps.length := (List.getElem?_eq_some_iff.mp z).1
                  have hz := hpD.length
                  rw [List.length_take] at hz
                  have : 0 < vs.length := List.length_pos_iff.mpr e0
                  refine Rising.step (i := i - 1) hris ?_ (by rw [show i - 1 + 1 = i by omega]; exact z)
                  rw [List.getLast?_eq_getElem?, List.length_take, List.getElem?_take] at hlp
                  rw [if_pos (by omega)] at hlp
                  rw [show min i ps.length - 1 = i - 1 by omega] at hlp
                  exact hlp
                · exact k
              have stay : Below lp q → ps[i]? = some q := fun bw => by
                rcases hq with z | ⟨e1, p, hp1, nb1, k⟩
                · exact z
                · exfalso
                  rw [e1, List.take_length, hp1] at hlp
                  cases hlp
                  exact nb1 bw
              refine iteT ⟨_, rfl, _, rfl, D, vs, _, _, rfl, rfl, SqL.of hlD, at_last hlv, tt, _, 0, _, rfl, rfl, SqT.of ht, rfl, xa, da, _, rfl, hxa1, rfl, ?_⟩
              refine ⟨_, rfl, xa, .ref pa, lp.1, rfl, hxa, bl.1, .amt hA, .inl ⟨q.1, .obj hA, bq.1, fun He se => ?_⟩⟩
              refine ⟨_, _, rfl, rfl, _, rfl, ?_⟩
              rw [cmp_neg]
              by_cases b1 : lp.1 < q.1
              · rw [decide_eq_true b1]
                obtain ⟨db, hya1⟩ := hya.up se
                refine iteT ⟨_, rfl, _, rfl, D, vs, _, _, rfl, rfl, SqL.of (se _ _ hlD), at_last hlv, tt, _, 1, _, rfl, rfl, SqT.of (se _ _ ht), rfl, ya, db, _, rfl, hya1, rfl, ?_⟩
                refine ⟨_, rfl, ya, .ref pb, lp.2, rfl, hya.up se, bl.2, .amt (hB.up se), .inl ⟨q.2, .obj (hB.up se), bq.2, fun Hf sf => ?_⟩⟩
                refine ⟨_, _, rfl, rfl, _, rfl, ?_⟩
                rw [cmp_neg]
                by_cases b2 : lp.2 < q.2
                · rw [decide_eq_true b2]
                  exact iteF ⟨rfl, se.trans sf, stay ⟨b1, b2⟩⟩
                · rw [decide_eq_false b2]
                  exact iteT ⟨_, rfl, mk_at T.xc_Falling.oex T.xc_Falling.no (rf_of ((out fun z => b2 z.2).up (smD.trans (se.trans sf))))⟩
              · rw [decide_eq_false b1]
                exact iteF (iteT ⟨_, rfl, mk_at T.xc_Falling.oex T.xc_Falling.no (rf_of ((out fun z => b1 z.1).up (smD.trans se)))⟩)
          · rintro _ H3 ⟨rfl, s3, hqi⟩
            have hl3 := s3 _ _ hlD
            have hp3 := hpD.up s3
            have li : i < ps.length := (List.getElem?_eq_some_iff.mp hqi).1
            refine ⟨_, rfl, tyV_lst hl3, _, rfl, _, rfl, (by show 2 ≤ sizeLine; decide), fun tn htn => ?_⟩
            have s4 : Same H3 (upd H3 tn (.tup [.ref pa, .ref pb])) := AT.Same.up htn
            have hl4 := s4 _ _ hl3
            have lz := hpD.length
            rw [List.length_take] at lz
            refine ⟨D, vs, _, rfl, rfl, hl4, (by omega), ?_⟩
            have pn : Pt K (upd H3 tn (.tup [.ref pa, .ref pb])) (.ref tn) q := ⟨tn, pa, pb, rfl, upd_same, (hA.up s3).up s4, (hB.up s3).up s4⟩
            refine ⟨_, _, _, _, vs ++ [.ref tn], rfl, ?_, upd_same, li, ?_⟩
            · exact AT.Same.new (smD1.trans (s3.trans s4)) hD
            · rw [List.take_add_one, hqi]
              exact ((hp3.up s4).app pn).set hl4
        · have avA := av.up sm2
          have raise : ∀ Hb, Same Ha Hb → ∀ d, Hb d = none → E (.ref (He.ga K "InvalidPoint")) (some d) (upd Hb d (.xd [("value", y0)])) := fun Hb sb => rf_of (k.up (sm2.trans sb))
          refine ⟨_, rfl, y0, 2, rfl, avA, fun ys hy Hb sb => ?_, fun hn Hb sb => ?_⟩
          · rcases bad with hn | ⟨zs, hz, hz2⟩ | ⟨x1, x2, hz, a1, a2, na⟩
            · exact absurd ⟨ys, hy⟩ (noSq_up av hn sm2)
            · rw [← (hz.up sm2).inj hy, decide_eq_false hz2]
              exact ⟨_, rfl, iteT (iteT ⟨_, rfl, mk_at T.xc_InvalidPoint.oex T.xc_InvalidPoint.no (raise Hb sb)⟩)⟩
            · have hzA := hz.up sm2
              rw [← hzA.inj hy, decide_eq_true (show [x1, x2].length = 2 from rfl)]
              obtain ⟨b, rfl, hb⟩ := id hzA
              have hbB := hb.imp (sb _ _) (sb _ _)
              refine ⟨_, rfl, iteF ⟨_, rfl, b, _, 0, x1, rfl, rfl, hbB.imp SqL.of SqT.of, rfl, x1, rfl, a1.up (sm2.trans sb), fun y1 => ?_, fun _ => ?_⟩⟩
              · rcases na with na | ⟨_, na⟩
                · exact absurd y1 (noA_up a1 na (sm2.trans sb))
                · refine ⟨_, rfl, iteF ⟨_, rfl, b, _, 1, x2, rfl, rfl, hbB.imp SqL.of SqT.of, rfl, x2, rfl, a2.up (sm2.trans sb), fun y2 => absurd y2 (noA_up a2 na (sm2.trans sb)), fun _ => ?_⟩⟩
                  exact ⟨_, rfl, iteT ⟨_, rfl, mk_at T.xc_InvalidPoint.oex T.xc_InvalidPoint.no (raise Hb sb)⟩⟩
              · exact ⟨_, rfl, iteT (iteT ⟨_, rfl, mk_at T.xc_InvalidPoint.oex T.xc_InvalidPoint.no (raise Hb sb)⟩)⟩
          · exact ⟨_, rfl, iteT (iteT ⟨_, rfl, mk_at T.xc_InvalidPoint.oex T.xc_InvalidPoint.no (raise Hb sb)⟩)⟩
      · rintro σ' H' ⟨o2, o3, o4, o5, vs, rfl, sm, hl, hip, hp⟩
        have e : ps.length = xs.length := by
          rcases hend with ⟨e, _⟩ | ⟨_, z, _⟩ | ⟨_, _, _, z, _⟩
          · exact e
          · have := (List.getElem?_eq_some_iff.mp z).1; omega
          · have := (List.getElem?_eq_some_iff.mp z).1; omega
        rcases hend with ⟨_, k⟩ | ⟨_, z, _⟩ | ⟨_, _, _, z, _⟩
        · rw [← e, List.take_length] at hp
          exact ⟨_, rfl, k D vs H' (s1.trans sm) (none_of s1 hD) hl hp⟩
        · have := (List.getElem?_eq_some_iff.mp z).1; omega
        · have := (List.getElem?_eq_some_iff.mp z).1; omega
end
end K08

set_option maxHeartbeats 4000000
namespace K08
open PySem PySem.Spec PyProof.Rows L2 AT
section
variable {P : Program} {w : World} {K : PySem.W.Frag} {mg : Str → Option Value} {base : Heap}
def slopeQ (p q : Rat × Rat) : Rat := (q.2 - p.2) / (q.1 - p.1)
def spSlope (K : PySem.W.Frag) : Sp := fun vs H Q _ => ∃ v1 v2 p q, vs = [v1, v2] ∧ Pt K H v1 p ∧ Pt K H v2 q ∧ BitsP 1000 p ∧ BitsP 1000 q ∧ p.1 ≠ q.1 ∧ ∀ x H', Same H H' → H x = none → IsQ K H' x (slopeQ p q) → Q (.ref x) H'
theorem sc_slope : FnScope ["one", "other"] ["one", "other"] (defScope s_slope) := ⟨rfl, rfl, rfl, by decide +kernel, rfl, by decide +kernel, by decide +kernel⟩
theorem ok_slope (T : Tx K mg base) : Ok P w K mg base 8 (d_slope.loc K) ["one", "other"] (spSlope K) := by
  refine mk_ok (k := 7) T.f_slope sc_slope (fun _ _ _ _ _ _ us hl => match us, hl with | [_, _], _ => rfl) (fun vs H Q E h => ?_) (fun cdv A outer s H vs Q E hr h => ?_)
  · obtain ⟨v1, v2, p, q, rfl, _⟩ := h
    rfl
  · obtain ⟨v1, v2, p, q, rfl, h1, h2, b1, b2, hne, k⟩ := h
    refine ⟨_, (pss_one (ps_ret (ok_meth T.cls_Amount T.m_Amount_divided (ok_Amount_divided T) (hr.mono (by decide)) (passE rfl rfl rfl rfl) (pe_op (op_own T.op_Amount_sub (ok_Amount_sub_ T) (hr.mono (by decide)) (passE rfl rfl rfl rfl)) (pe_ix ix_tup (pv 1) pe_int (fun _ _ => rfl)) (pe_ix ix_tup (pv 0) pe_int (fun _ _ => rfl))) (pa_cons (pe_op (op_own T.op_Amount_sub (ok_Amount_sub_ T) (hr.mono (by decide)) (passE rfl rfl rfl rfl)) (pe_ix ix_tup (pv 1) pe_int (fun _ _ => rfl)) (pe_ix ix_tup (pv 0) pe_int (fun _ _ => rfl))) pa_nil)))), ?_⟩
    obtain ⟨t1, x1, y1, rfl, ht1, hx1, hy1⟩ := id h1
    obtain ⟨t2, x2, y2, rfl, ht2, hx2, hy2⟩ := id h2
    obtain ⟨e1, hy2'⟩ := id hy2
    have up : ∀ {q : Rat}, Bits 1000 q → Bits 3000 q := fun h => h.mono (by decide)
    have up2 : ∀ {q : Rat}, Bits 2001 q → Bits 3000 q := fun h => h.mono (by decide)
    refine ⟨_, rfl, t2, _, 1, _, rfl, rfl, SqT.of ht2, rfl, _, rfl, t1, _, 1, _, rfl, rfl, SqT.of ht1, rfl, y2, e1, _, _, rfl, hy2', T.ins_Amount (hy1.choose_spec), .inl rfl, ?_⟩
    refine ⟨y2, .ref y1, q.2, rfl, hy2, up b2.2, .amt hy1, .inl ⟨p.2, .obj hy1, up b1.2, fun u H1 s1 hu hU => ?_⟩⟩
    obtain ⟨du, hU'⟩ := id hU
    obtain ⟨e2, hx2'⟩ := hx2.up s1
    have bU : Bits 2001 (q.2 - p.2) := b2.2.sub b1.2
    refine ⟨u, du, _, rfl, hU', rfl, ?_⟩
    refine ⟨_, rfl, t2, _, 0, _, rfl, rfl, SqT.of (s1 _ _ ht2), rfl, _, rfl, t1, _, 0, _, rfl, rfl, SqT.of (s1 _ _ ht1), rfl, x2, e2, _, _, rfl, hx2', T.ins_Amount ((hx1.up s1).choose_spec), .inl rfl, ?_⟩
    refine ⟨x2, .ref x1, q.1, rfl, hx2.up s1, up b2.1, .amt (hx1.up s1), .inl ⟨p.1, .obj (hx1.up s1), up b1.1, fun z H2 s2 hz hZ => ?_⟩⟩
    have bZ : Bits 2001 (q.1 - p.1) := b2.1.sub b1.1
    have nz : q.1 - p.1 ≠ 0 := fun e => hne (by grind)
    refine ⟨u, .ref z, q.2 - p.2, rfl, hU.up s2, up2 bU, .amt hZ, .inl ⟨q.1 - p.1, .obj hZ, up2 bZ, nz, fun x H3 s3 hx hX => ?_⟩⟩
    exact k x H3 ((s1.trans s2).trans s3) (none_of (s1.trans s2) hx) hX
/-- amounts in a row -/
inductive Qs (K : PySem.W.Frag) (H : Hp) : List V → List Rat → Prop
  | nil : Qs K H [] []
  | cons {x : Addr} {q : Rat} {vs : List V} {qs : List Rat} : IsQ K H x q → Qs K H vs qs → Qs K H (.ref x :: vs) (q :: qs)
theorem Qs.up {H H' : Hp} {vs : List V} {qs : List Rat} (h : Qs K H vs qs) (s : Same H H') : Qs K H' vs qs := by
  induction h with
  | nil => exact .nil
  | cons a b ih => exact .cons (a.up s) ih
theorem Qs.app {H : Hp} {vs ws : List V} {qs rs : List Rat} (h : Qs K H vs qs) (g : Qs K H ws rs) : Qs K H (vs ++ ws) (qs ++ rs) := by
  induction h with
  | nil => exact g
  | cons a b ih => exact .cons a ih
theorem Qs.length {H : Hp} {vs : List V} {qs : List Rat} (h : Qs K H vs qs) : vs.length = qs.length := by
  induction h with
  | nil => rfl
  | cons a b ih => simp [ih]
theorem Qs.get {H : Hp} {vs : List V} {qs : List Rat} (h : Qs K H vs qs) : ∀ {i : Nat} {q : Rat}, qs[i]? = some q → ∃ x, vs[i]? = some (.ref x) ∧ IsQ K H x q := by
  induction h with
  | nil => intro i p e; simp at e
  | cons a b ih =>
    intro i p e
    cases i with
    | zero => simp at e; subst e; exact ⟨_, rfl, a⟩
    | succ i => simpa using ih (by simpa using e)
theorem Qs.set {H : Hp} {vs : List V} {qs : List Rat} {D : Addr} {ys zs : List V} (h : Qs K H vs qs) (hD : H D = some (.lst ys)) : Qs K (upd H D (.lst zs)) vs qs := by
  induction h with
  | nil => exact .nil
  | cons a b ih =>
    obtain ⟨d, e⟩ := a
    refine .cons ⟨d, ?_⟩ ih
    rw [upd_ne (by rintro rfl; rw [e] at hD; cases hD)]
    exact e
def slopes (ps : List (Rat × Rat)) : List Rat := List.zipWith slopeQ ps ps.tail
theorem cut_tail (ws : List V) : cutV ws (some 1) none = ws.tail := by
  unfold cutV
  rw [show (some (1 : Int)) = some ((1 : Nat) : Int) from rfl, HT.sIx_nat, HT.sIx_none]
  cases ws with
  | nil => rfl
  | cons x l =>
    rw [show min 1 (x :: l).length = 1 by simp]
    simp
theorem no_whole {ws : List V} (h : 0 < ws.length) : ¬ (HT.sIx ws.length 0 (some 1) = 0 ∧ HT.sIx ws.length ws.length none = ws.length) := by
  rw [show (some (1 : Int)) = some ((1 : Nat) : Int) from rfl, HT.sIx_nat]
  omega
theorem Pts.at {H : Hp} {vs : List V} {ps : List (Rat × Rat)} (h : Pts K H vs ps) {i : Nat} {v : V} (hv : vs[i]? = some v) : ∃ p, ps[i]? = some p ∧ Pt K H v p := by
  have li : i < ps.length := by rw [← h.length]; exact (List.getElem?_eq_some_iff.mp hv).1
  obtain ⟨v', e, pt⟩ := h.get (List.getElem?_eq_getElem li)
  rw [hv] at e
  cases e
  exact ⟨_, List.getElem?_eq_getElem li, pt⟩
theorem slopes_at {ps : List (Rat × Rat)} {i : Nat} {p q : Rat × Rat} (h1 : ps[i]? = some p) (h2 : ps[i + 1]? = some q) : (slopes ps)[i]? = some (slopeQ p q) := by
  unfold slopes
  rw [List.getElem?_zipWith, h1, List.getElem?_tail, h2]
def spPaces (K : PySem.W.Frag) : Sp := fun vs H Q _ => ∃ (a : Addr) (ws : List V) (b : Bool) (ps : List (Rat × Rat)), vs = [.ref a] ∧ H a = some (mkS ws b) ∧ Pts K H ws ps ∧ ps.length < 1000 ∧ (b = false → ps ≠ []) ∧ Rising ps ∧ (∀ p ∈ ps, BitsP 1000 p) ∧
  ∀ D us H', Same H H' → H D = none → H' D = some (.lst us) → Qs K H' us ([1] ++ slopes ps ++ [1]) → Q (.ref D) H'
theorem sc_paces : FnScope ["points", "one", "other", "between"] ["points"] (defScope s_paces) := ⟨rfl, rfl, rfl, by decide +kernel, rfl, by decide +kernel, by decide +kernel⟩
theorem ok_paces (T : Tx K mg base) : Ok P w K mg base 9 (d_paces.loc K) ["points"] (spPaces K) := by
  refine mk_ok (k := 8) T.f_paces sc_paces (fun _ _ _ _ _ _ us hl => match us, hl with | [_], _ => rfl) (fun vs H Q E h => ?_) (fun cdv A outer s H vs Q E hr h => ?_)
  · obtain ⟨a, ws, b, ps, rfl, _⟩ := h
    rfl
  · obtain ⟨a, ws, b, ps, rfl, ha, hp, hlen, hb, hris, hbits, k⟩ := h
    refine ⟨_, (pss_cons (ps_setLc (i := 3) (own := [("one", 1), ("other", 2)]) (g := (gTup K 2 (gCons (gName 1) (gCons (gName 2) gNil)))) (tt := tYes) (by rfl) sc_paces.nd rfl rfl (sw_true rfl rfl rfl (by decide +kernel)) (RZ.pi_zipA (by rfl) T.b_zip (pa_cons (pv 0) (pa_cons (pe_slice sl_sq (pv 0) (po_some pe_int) po_none) pa_nil))) (blkOk_by (own := [("one", 1), ("other", 2)]) (N := ["points", "one", "other", "between"]) (sc := defScope s_paces) (by decide +kernel)) (fun _ _ _ _ _ => (pg_tup rfl (pgs_cons (pg_name (i := 1) sc_paces.nd rfl (Or.inl rfl)) (pgs_cons (pg_name (i := 2) sc_paces.nd rfl (Or.inl rfl)) pgs_nil)))) (fun _ _ _ _ _ => pts_nil) (fun _ _ _ _ _ => (ok_call (ok_slope T) (hr.mono (by decide)) rfl T.g_slope passL (pa_cons (pv 1) (pa_cons (pv 2) pa_nil)))))
      (pss_one (ps_ret (pe_op op_cat (pe_op op_cat (pe_lst (pa_cons (ok_makeD T.mkr_Amount (okd_Amount_init_ T) (hr.mono (by decide)) rfl T.g_Amount (passE rfl rfl rfl rfl) (pa_cons (pe_k T.c_ONE) pa_nil)) pa_nil)) (pv 3)) (pe_lst (pa_cons (ok_makeD T.mkr_Amount (okd_Amount_init_ T) (hr.mono (by decide)) rfl T.g_Amount (passE rfl rfl rfl rfl) (pa_cons (pe_k T.c_ONE) pa_nil)) pa_nil)))))), ?_⟩
    have hl := hp.length
    refine ⟨_, rfl, _, rfl, 1, rfl, a, ws, b, rfl, SqB.of ha, (fun e => no_whole (by rw [hl]; exact List.length_pos_iff.mpr (hb e))), fun p hpn => ?_⟩
    rw [cut_tail]
    have s0 : Same H (upd H p (mkS ws.tail b)) := AT.Same.up hpn
    have ha1 := s0 _ _ ha
    have hp1 : upd H p (mkS ws.tail b) p = some (mkS ws.tail b) := upd_same
    generalize upd H p (mkS ws.tail b) = H1 at s0 ha1 hp1 ⊢
    have sl : (slopes ps).length = ws.length - 1 := by
      unfold slopes
      rw [List.length_zipWith, List.length_tail, hl]
      omega
    have hn : ws.length - 1 = min ws.length ws.tail.length := by rw [List.length_tail]; omega
    have two : (SqL K H1 a ws ∧ SqL K H1 p ws.tail) ∨ (SqT K H1 a ws ∧ SqT K H1 p ws.tail) := by
      cases b with
      | true => exact .inl ⟨SqL.of ha1, SqL.of hp1⟩
      | false => exact .inr ⟨SqT.of ha1, SqT.of hp1⟩
    have fin : ∀ (D : Addr) (us : List V) (H' : Hp), Same H1 H' → H1 D = none → H' D = some (.lst us) → Qs K H' us (slopes ps) →
        tRet (tOp rCat (tOp rCat (tLst (tCons (tMake (He.ga K "Amount") (spAmt K) [.int 1] E (tCons (tC (.int 1)) tNil)) tNil)) (tVar 3)) (tLst (tCons (tMake (He.ga K "Amount") (spAmt K) [.int 1] E (tCons (tC (.int 1)) tNil)) tNil))) { nx := fun x H' => Q V.non H', rt := Q } ([some (.ref a), none, none, some (.ref D)] : L2.St) H' := by
      intro D us H' sm hD hl1 hq
      have lu := hq.length
      refine fun x dx hx hdx hne => ⟨x, dx, _, _, rfl, upd_same, .int _, .int _, .inl ⟨1, 1, rfl, rfl, by decide, by decide +kernel, rfl, ?_⟩⟩
      have sA : Same H' (upd (upd (upd H' dx (.own x)) x (.ins (cA K) dx [])) x (.ins (cA K) dx (amtQ (Rat.divInt 1 1)))) := made_same hx hdx
      have hX : IsQ K (upd (upd (upd H' dx (.own x)) x (.ins (cA K) dx [])) x (.ins (cA K) dx (amtQ (Rat.divInt 1 1)))) x (1 : Rat) := ⟨dx, by rw [upd_same, q_int]; rfl⟩
      generalize upd (upd (upd H' dx (.own x)) x (.ins (cA K) dx [])) x (.ins (cA K) dx (amtQ (Rat.divInt 1 1))) = HA at sA hX ⊢
      refine ⟨(by show 1 ≤ sizeLine; decide), fun q1 hq1 => ?_⟩
      have sB := AT.Same.up (o := .lst [.ref x]) hq1
      refine ⟨_, rfl, q1, D, _, _, rfl, rfl, upd_same, sB _ _ (sA _ _ hl1), (by rw [sizeLine_eq]; show 1 + _ ≤ _; omega), fun r hr => ?_⟩
      have sC := AT.Same.up (o := .lst ([.ref x] ++ us)) hr
      refine fun y dy hy hdy hne2 => ⟨y, dy, _, _, rfl, upd_same, .int _, .int _, .inl ⟨1, 1, rfl, rfl, by decide, by decide +kernel, rfl, ?_⟩⟩
      have sD := made_same (o1 := .ins (cA K) dy []) (o2 := .ins (cA K) dy (amtQ (Rat.divInt 1 1))) hy hdy
      have hY : IsQ K (upd (upd (upd (upd (upd HA q1 (.lst [.ref x])) r (.lst ([.ref x] ++ us))) dy (.own y)) y (.ins (cA K) dy [])) y (.ins (cA K) dy (amtQ (Rat.divInt 1 1)))) y (1 : Rat) := ⟨dy, by rw [upd_same, q_int]; rfl⟩
      refine ⟨(by show 1 ≤ sizeLine; decide), fun q2 hq2 => ?_⟩
      have sE := AT.Same.up (o := .lst [.ref y]) hq2
      refine ⟨r, q2, _, _, rfl, rfl, sE _ _ (sD _ _ upd_same), upd_same, (by rw [sizeLine_eq, List.length_append]; show 1 + _ + 1 ≤ _; omega), fun z hz => ?_⟩
      have sF := AT.Same.up (o := .lst ([.ref x] ++ us ++ [.ref y])) hz
      have all : Same H' _ := (((sA.trans sB).trans sC).trans sD).trans (sE.trans sF)
      have back : Same HA _ := ((sB.trans sC).trans sD).trans (sE.trans sF)
      refine k z _ _ ((s0.trans sm).trans all) (none_of ((s0.trans sm).trans ((((sA.trans sB).trans sC).trans sD).trans sE)) hz) upd_same ?_
      exact ((Qs.cons (hX.up back) .nil).app (hq.up all)).app (.cons ((hY.up sE).up sF) .nil)
    refine ⟨a, p, ws, ws.tail, rfl, two.imp (fun z => ⟨z.1, z.2, fun D hD => ?_⟩) (fun z => ⟨z.1, z.2, fun D hD => ?_⟩)⟩
    · refine lc_it (walk_zip hn) (fun i H' => ∃ us, Same H1 H' ∧ H' D = some (.lst us) ∧ Qs K H' us ((slopes ps).take i)) ⟨[], AT.Same.up hD, upd_same, .nil⟩ (fun i H' hi ⟨us, sm, hl1, hq⟩ => ⟨AT.Same.sql sm z.1, AT.Same.sql sm z.2⟩) (fun i x H' H2 hi ⟨us, sm, hl1, hq⟩ ⟨Tp, x0, y0, e1, hTp, e2, hx0, hy0⟩ => ?_) (fun H' ⟨us, sm, hl1, hq⟩ => ?_)
      · subst e1 e2
        have hx0 : ws[i]? = some x0 := hx0
        have hy0 : ws[i + 1]? = some y0 := by
          have z : ws.tail[i]? = some y0 := hy0
          rw [List.getElem?_tail] at z
          exact z
        have s2 := sm.trans (AT.Same.up (o := .tup [x0, y0]) hTp)
        obtain ⟨p1, ep, pt1⟩ := hp.at hx0
        obtain ⟨p2, eq, pt2⟩ := hp.at hy0
        have bw := Rising.step hris ep eq
        refine ⟨Tp, _, rfl, SqT.of upd_same, rfl, _, _, rfl, _, _, rfl, rfl, rfl, ?_⟩
        dsimp only [tYes]
        refine iteT ⟨_, rfl, _, rfl, x0, y0, p1, p2, rfl, (pt1.up s0).up s2, (pt2.up s0).up s2, hbits _ (List.mem_of_getElem? ep), hbits _ (List.mem_of_getElem? eq), (by have := bw.1; grind), fun u H3 s3 hu hU => ?_⟩
        have hl3 := s3 _ _ ((AT.Same.up (o := .tup [x0, y0]) hTp) _ _ hl1)
        have hq3 := (hq.up (AT.Same.up (o := .tup [x0, y0]) hTp)).up s3
        have lu := hq.length
        rw [List.length_take] at lu
        refine ⟨us, hl3, (by rw [sizeLine_eq]; omega), us ++ [.ref u], AT.Same.new (s2.trans s3) hD, upd_same, ?_⟩
        rw [List.take_add_one, slopes_at ep eq]
        exact (hq3.app (.cons hU .nil)).set hl3
      · rw [← sl, List.take_length] at hq
        exact fin D us H' sm hD hl1 hq
    · refine lc_it (walk_zipT hn) (fun i H' => ∃ us, Same H1 H' ∧ H' D = some (.lst us) ∧ Qs K H' us ((slopes ps).take i)) ⟨[], AT.Same.up hD, upd_same, .nil⟩ (fun i H' hi ⟨us, sm, hl1, hq⟩ => ⟨AT.Same.tup sm z.1, AT.Same.tup sm z.2⟩) (fun i x H' H2 hi ⟨us, sm, hl1, hq⟩ ⟨Tp, x0, y0, e1, hTp, e2, hx0, hy0⟩ => ?_) (fun H' ⟨us, sm, hl1, hq⟩ => ?_)
      · subst e1 e2
        have hx0 : ws[i]? = some x0 := hx0
        have hy0 : ws[i + 1]? = some y0 := by
          have z : ws.tail[i]? = some y0 := hy0
          rw [List.getElem?_tail] at z
          exact z
        have s2 := sm.trans (AT.Same.up (o := .tup [x0, y0]) hTp)
        obtain ⟨p1, ep, pt1⟩ := hp.at hx0
        obtain ⟨p2, eq, pt2⟩ := hp.at hy0
        have bw := Rising.step hris ep eq
        refine ⟨Tp, _, rfl, SqT.of upd_same, rfl, _, _, rfl, _, _, rfl, rfl, rfl, ?_⟩
        dsimp only [tYes]
        refine iteT ⟨_, rfl, _, rfl, x0, y0, p1, p2, rfl, (pt1.up s0).up s2, (pt2.up s0).up s2, hbits _ (List.mem_of_getElem? ep), hbits _ (List.mem_of_getElem? eq), (by have := bw.1; grind), fun u H3 s3 hu hU => ?_⟩
        have hl3 := s3 _ _ ((AT.Same.up (o := .tup [x0, y0]) hTp) _ _ hl1)
        have hq3 := (hq.up (AT.Same.up (o := .tup [x0, y0]) hTp)).up s3
        have lu := hq.length
        rw [List.length_take] at lu
        refine ⟨us, hl3, (by rw [sizeLine_eq]; omega), us ++ [.ref u], AT.Same.new (s2.trans s3) hD, upd_same, ?_⟩
        rw [List.take_add_one, slopes_at ep eq]
        exact (hq3.app (.cons hU .nil)).set hl3
      · rw [← sl, List.take_length] at hq
        exact fin D us H' sm hD hl1 hq
end
end K08

set_option maxHeartbeats 4000000
namespace K08
open PySem PySem.Spec PyProof.Rows L2 AT
section
variable {P : Program} {w : World} {K : PySem.W.Frag} {mg : Str → Option Value} {base : Heap}
/-- a coordinate: the beat (0), the second (1) -/
def crd (c : Bool) (p : Rat × Rat) : Rat := if c then p.2 else p.1
def cInt (c : Bool) : Int := if c then 1 else 0
/-- the places of the points that do not lie above v -/
def aheadQ (ps : List (Rat × Rat)) (c : Bool) (v : Rat) (n : Nat) : List Nat := (List.range n).filter fun i => match ps[i]? with
  | some p => decide (crd c p ≤ v)
  | none => false
def ledQ (ps : List (Rat × Rat)) (v : Rat) (h t : Bool) : Rat := match ps with
  | [] => v
  | p0 :: _ => match (aheadQ ps h v ps.length).getLast? with
    | none => crd t p0 + (v - crd h p0)
    | some l => match ps[l]?, ps[l + 1]? with
      | some p, none => crd t p + (v - crd h p)
      | some p, some q => crd t p + (v - crd h p) / (crd h q - crd h p) * (crd t q - crd t p)
      | _, _ => 0
theorem Pt.crd {H : Hp} {t : V} {p : Rat × Rat} (h : Pt K H t p) (c : Bool) : ∃ a xs x, t = .ref a ∧ H a = some (.tup xs) ∧ atI xs (cInt c) = some (.ref x) ∧ IsQ K H x (crd c p) := by
  obtain ⟨a, x, y, e, h1, h2, h3⟩ := h
  cases c with
  | true => exact ⟨a, _, y, e, h1, rfl, h3⟩
  | false => exact ⟨a, _, x, e, h1, rfl, h2⟩
theorem BitsP.crd {k : Nat} {p : Rat × Rat} (h : BitsP k p) (c : Bool) : Bits k (crd c p) := by
  cases c with
  | true => exact h.2
  | false => exact h.1
theorem ahead_step (ps : List (Rat × Rat)) (c : Bool) (v : Rat) {i : Nat} {p : Rat × Rat} (h : ps[i]? = some p) : aheadQ ps c v (i + 1) = aheadQ ps c v i ++ (if crd c p ≤ v then [i] else []) := by
  unfold aheadQ
  rw [List.range_succ, List.filter_append]
  congr 1
  by_cases z : crd c p ≤ v
  · simp [List.filter, h, z]
  · simp [List.filter, h, z]
theorem cmp_le (x y : Rat) : decide (cmpQ x y ≤ 0) = decide (x ≤ y) := by
  unfold cmpQ
  by_cases h : y < x
  · have h2 : ¬ x < y := by grind
    have h3 : ¬ x ≤ y := by grind
    simp [h, h2, h3]
  · have h3 : x ≤ y := by grind
    simp [h, h3]
    split <;> decide
def spLed (K : PySem.W.Frag) : Sp := fun vs H Q _ => ∃ (a : Addr) (ws : List V) (b : Bool) (ps : List (Rat × Rat)) (x : Addr) (v : Rat) (h t : Bool), vs = [.ref a, .ref x, .int (cInt h), .int (cInt t)] ∧ H a = some (mkS ws b) ∧ Pts K H ws ps ∧ ps.length < 1000 ∧ Rising ps ∧ (∀ p ∈ ps, BitsP 400 p) ∧ IsQ K H x v ∧ Bits 400 v ∧
  ∀ r H', Same H H' → IsQ K H' r (ledQ ps v h t) → Q (.ref r) H'
theorem sc_led : FnScope ["points", "value", "here", "there", "at", "point", "ahead", "last", "one", "other", "part"] ["points", "value", "here", "there"] (defScope s_led) := ⟨rfl, rfl, rfl, by decide +kernel, rfl, by decide +kernel, by decide +kernel⟩
theorem ok_led (T : Tx K mg base) : Ok P w K mg base 9 (d_led.loc K) ["points", "value", "here", "there"] (spLed K) := by
  refine mk_ok (k := 8) T.f_led sc_led (fun _ _ _ _ _ _ us hl => match us, hl with | [_, _, _, _], _ => rfl) (fun vs H Q E h => ?_) (fun cdv A outer s H vs Q E hr h => ?_)
  · obtain ⟨a, ws, b, ps, x, v, h, t, rfl, _⟩ := h
    rfl
  · obtain ⟨a, ws, b, ps, x, v, hh, tt, rfl, ha, hp, hlen, hris, hbits, hx, bv, k⟩ := h
    refine ⟨_, (pss_cons (ps_if (pt_not (pt_truth (pv 0) (by intro _; rfl))) (pss_one (ps_ret (pv 1))) pss_nil)
      (pss_cons (ps_setLc (i := 6) (own := [("at", 4), ("point", 5)]) (g := (gTup K 2 (gCons (gName 4) (gCons (gName 5) gNil)))) (by rfl) sc_led.nd rfl rfl (sw_true rfl rfl rfl (by decide +kernel)) (pi_enumA (by rfl) T.b_enumerate (pa_cons (pv 0) pa_nil)) (blkOk_by (own := [("at", 4), ("point", 5)]) (N := ["points", "value", "here", "there", "at", "point", "ahead", "last", "one", "other", "part"]) (sc := defScope s_led) (by decide +kernel)) (fun _ _ _ _ _ => (pg_tup rfl (pgs_cons (pg_name (i := 4) sc_led.nd rfl (Or.inl rfl)) (pgs_cons (pg_name (i := 5) sc_led.nd rfl (Or.inl rfl)) pgs_nil)))) (fun _ _ _ _ _ => (pts_one (pt_cmpR op_le (ok_meth T.cls_Amount T.m_Amount_compare (ok_Amount_compare T) (hr.mono (by decide)) passL (pe_ix (show IxR _ (rIxT K) from ix_tup) (pv 5) (pv 2) (fun _ _ => rfl)) (pa_cons (pv 1) pa_nil)) pe_int (nomark _)))) (fun _ _ _ _ _ => (pv 4)))
      (pss_cons (ps_if (pt_not (pt_truth (pv 6) (by intro _; rfl))) (pss_one (ps_ret (pe_op (op_own T.op_Amount_add (ok_Amount_add_ T) (hr.mono (by decide)) (passE rfl rfl rfl rfl)) (pe_ix ix_tup (pe_ix ix_sq (pv 0) pe_int (fun _ _ => rfl)) (pv 3) (fun _ _ => rfl)) (pe_op (op_own T.op_Amount_sub (ok_Amount_sub_ T) (hr.mono (by decide)) (passE rfl rfl rfl rfl)) (pv 1) (pe_ix ix_tup (pe_ix ix_sq (pv 0) pe_int (fun _ _ => rfl)) (pv 2) (fun _ _ => rfl)))))) pss_nil)
      (pss_cons (ps_set (i := 7) sc_led.nd rfl (Or.inl rfl) (pe_ix ix_list (pv 6) (pe_un un_neg pe_int) (fun _ _ => rfl)))
      (pss_cons (ps_if (pt_cmpR op_eq (pe_op op_add (pv 7) pe_int) (pe_callB call_len_seq (by rfl) T.b_len (by decide +kernel) (pa_cons (pv 0) pa_nil)) (nomark _)) (pss_one (ps_ret (pe_op (op_own T.op_Amount_add (ok_Amount_add_ T) (hr.mono (by decide)) (passE rfl rfl rfl rfl)) (pe_ix ix_tup (pe_ix ix_sq (pv 0) (pv 7) (fun _ _ => rfl)) (pv 3) (fun _ _ => rfl)) (pe_op (op_own T.op_Amount_sub (ok_Amount_sub_ T) (hr.mono (by decide)) (passE rfl rfl rfl rfl)) (pv 1) (pe_ix ix_tup (pe_ix ix_sq (pv 0) (pv 7) (fun _ _ => rfl)) (pv 2) (fun _ _ => rfl)))))) pss_nil)
      (pss_cons (ps_par (by rfl) sc_led.nd (i := 8) (j := 9) rfl rfl (by decide) rfl rfl (pa_cons (pe_ix ix_sq (pv 0) (pv 7) (fun _ _ => rfl)) (pa_cons (pe_ix ix_sq (pv 0) (pe_op op_add (pv 7) pe_int) (fun _ _ => rfl)) pa_nil)) (by rfl))
      (pss_cons (ps_set (i := 10) sc_led.nd rfl (Or.inl rfl) (ok_meth T.cls_Amount T.m_Amount_divided (ok_Amount_divided T) (hr.mono (by decide)) (passE rfl rfl rfl rfl) (pe_op (op_own T.op_Amount_sub (ok_Amount_sub_ T) (hr.mono (by decide)) (passE rfl rfl rfl rfl)) (pv 1) (pe_ix ix_tup (pv 8) (pv 2) (fun _ _ => rfl))) (pa_cons (pe_op (op_own T.op_Amount_sub (ok_Amount_sub_ T) (hr.mono (by decide)) (passE rfl rfl rfl rfl)) (pe_ix ix_tup (pv 9) (pv 2) (fun _ _ => rfl)) (pe_ix ix_tup (pv 8) (pv 2) (fun _ _ => rfl))) pa_nil)))
      (pss_one (ps_ret (pe_op (op_own T.op_Amount_add (ok_Amount_add_ T) (hr.mono (by decide)) (passE rfl rfl rfl rfl)) (pe_ix ix_tup (pv 8) (pv 3) (fun _ _ => rfl)) (pe_op (op_own T.op_Amount_mul (ok_Amount_mul_ T) (hr.mono (by decide)) (passE rfl rfl rfl rfl)) (pv 10) (pe_op (op_own T.op_Amount_sub (ok_Amount_sub_ T) (hr.mono (by decide)) (passE rfl rfl rfl rfl)) (pe_ix ix_tup (pv 9) (pv 3) (fun _ _ => rfl)) (pe_ix ix_tup (pv 8) (pv 3) (fun _ _ => rfl)))))))))))))), ?_⟩
    have hl := hp.length
    refine ⟨_, rfl, !ws.isEmpty, ?_, ?_⟩
    · cases b with
      | true => exact .inl ⟨ws, SqL.of ha, rfl⟩
      | false => exact .inr (.inl ⟨ws, SqT.of ha, rfl⟩)
    cases hw : ws.isEmpty with
    | true =>
      have e0 : ws = [] := by simpa using hw
      have e1 : ps = [] := List.length_eq_zero_iff.mp (by rw [← hl, e0]; rfl)
      refine iteT ⟨_, rfl, k x H (Same.refl _) ?_⟩
      rw [e1]
      exact hx
    | false =>
      have e0 : ws ≠ [] := by rintro rfl; simp at hw
      refine iteF ⟨_, rfl, a, ws, rfl, (SqB.of ha).or, fun J hJ D hD => ?_⟩
      obtain ⟨G, wk, hG⟩ := en_walk hJ
      have hHa : ∀ H', Same H H' → H' a = H a := fun H' s => by rw [s _ _ ha, ha]
      have up : ∀ {q : Rat}, Bits 400 q → Bits 3000 q := fun h => h.mono (by decide)
      have hsz : sizeLine = 16777216 := sizeLine_eq
      refine lc_it wk (fun i H' => Same H H' ∧ H' D = some (.lst ((aheadQ ps hh v i).map fun j => V.int (j : Nat)))) ⟨AT.Same.up hD, upd_same⟩ (fun i H' hi hP => hG _ (hHa _ hP.1)) (fun i z H' H2 hi hP hY => ?_) (fun H' hP => ?_)
      · obtain ⟨sm, hl1⟩ := hP
        obtain ⟨Tp, x0, y0, rfl, hTp, rfl, e1, hy0⟩ := hY
        cases e1
        have hy0 : ws[i]? = some y0 := hy0
        have s2 := AT.Same.up (o := .tup [.int (i : Nat), y0]) hTp
        obtain ⟨p1, ep, pt1⟩ := hp.at hy0
        obtain ⟨aa, xs, xc, rfl, haa, hat, hxc⟩ := ((pt1.up sm).up s2).crd hh
        obtain ⟨dc, hxc'⟩ := id hxc
        refine ⟨Tp, _, rfl, SqT.of upd_same, rfl, _, _, rfl, _, _, rfl, rfl, rfl, ?_⟩
        refine ⟨_, rfl, _, rfl, aa, xs, _, _, rfl, rfl, SqT.of haa, hat, xc, dc, _, rfl, hxc', rfl, _, rfl, xc, .ref x, _, rfl, hxc, up ((hbits _ (List.mem_of_getElem? ep)).crd hh), .amt ((hx.up sm).up s2), .inl ⟨v, .obj ((hx.up sm).up s2), up bv, fun H3 s3 => ?_⟩⟩
        refine ⟨_, _, rfl, rfl, _, rfl, ?_⟩
        rw [cmp_le]
        have hl3 := s3 _ _ (s2 _ _ hl1)
        have st := ahead_step ps hh v ep
        by_cases c : crd hh p1 ≤ v
        · rw [decide_eq_true c]
          rw [if_pos c] at st
          have ln : (aheadQ ps hh v i).length ≤ i := by
            unfold aheadQ
            exact Nat.le_trans (List.length_filter_le _ _) (by rw [List.length_range]; exact Nat.le_refl _)
          refine iteT ⟨_, rfl, _, hl3, (by rw [List.length_map]; omega), AT.Same.new ((sm.trans s2).trans s3) hD, ?_⟩
          rw [upd_same, st, List.map_append]
          rfl
        · rw [decide_eq_false c]
          rw [if_neg c, List.append_nil] at st
          refine iteF ⟨(sm.trans s2).trans s3, ?_⟩
          rw [st]
          exact hl3
      · obtain ⟨sm, hl1⟩ := hP
        rw [hl] at hl1
        have ha1 := sm _ _ ha
        have sq1 := (SqB.of (K := K) ha1).or
        obtain ⟨dx, hx1⟩ := hx.up sm
        refine ⟨_, rfl, _, .inl ⟨_, SqL.of hl1, rfl⟩, ?_⟩
        have get : ∀ {i : Nat} {p : Rat × Rat} (c : Bool), ps[i]? = some p → ∃ aa xs xc dc, ws[i]? = some (.ref aa) ∧ H' aa = some (.tup xs) ∧ atI xs (cInt c) = some (.ref xc) ∧ H' xc = some (.ins (cA K) dc (amtQ (crd c p))) := by
          intro i p c e
          obtain ⟨v0, ew, pt⟩ := hp.get e
          obtain ⟨aa, xs, xc, rfl, h1, h2, dc, h3⟩ := (pt.up sm).crd c
          exact ⟨aa, xs, xc, dc, ew, h1, h2, h3⟩
        obtain ⟨p0, ps', rfl⟩ : ∃ p0 ps', ps = p0 :: ps' := by
          cases ps with
          | nil => exact absurd (List.length_eq_zero_iff.mp (by rw [hl]; rfl)) e0
          | cons p r => exact ⟨p, r, rfl⟩
        cases hg : (aheadQ (p0 :: ps') hh v (p0 :: ps').length).getLast? with
        | none =>
          have e1 : aheadQ (p0 :: ps') hh v (p0 :: ps').length = [] := by simpa using hg
          rw [e1]
          obtain ⟨ta, txs, tx, td, ew, h1, h2, h3⟩ := get (i := 0) tt rfl
          obtain ⟨ha_, hxs, hxx, hd, ew', g1, g2, g3⟩ := get (i := 0) hh rfl
          have b0 := hbits p0 (List.mem_cons_self)
          refine iteT ⟨_, rfl, a, ws, 0, _, rfl, rfl, sq1, atI_nat ew, _, rfl, ta, txs, _, _, rfl, rfl, SqT.of h1, h2, _, rfl, _, rfl, a, ws, 0, _, rfl, rfl, sq1, atI_nat ew', _, rfl, ha_, hxs, _, _, rfl, rfl, SqT.of g1, g2, x, dx, _, _, rfl, hx1, T.ins_Amount g3, .inl rfl, ?_⟩
          refine ⟨x, .ref hxx, v, rfl, ⟨dx, hx1⟩, up bv, .amt ⟨hd, g3⟩, .inl ⟨_, .obj ⟨hd, g3⟩, up (b0.crd hh), fun u H3 s3 hu hU => ?_⟩⟩
          obtain ⟨du, hU'⟩ := id hU
          refine ⟨tx, td, _, _, rfl, s3 _ _ h3, T.ins_Amount hU', .inl rfl, tx, .ref u, _, rfl, ⟨td, s3 _ _ h3⟩, up (b0.crd tt), .amt hU, .inl ⟨_, .obj hU, (bv.sub (b0.crd hh)).mono (by decide), fun r H4 s4 hr hR => ?_⟩⟩
          refine k r H4 ((sm.trans s3).trans s4) ?_
          have e2 : ledQ (p0 :: ps') v hh tt = crd tt p0 + (v - crd hh p0) := by
            unfold ledQ
            simp only [hg]
          rw [e2]
          exact hR
        | some l =>
          have ml := List.mem_of_getLast? hg
          have ll : l < (p0 :: ps').length := by
            unfold aheadQ at ml
            exact List.mem_range.mp (List.mem_filter.mp ml).1
          have ep : (p0 :: ps')[l]? = some (p0 :: ps')[l] := List.getElem?_eq_getElem ll
          generalize hpl : (p0 :: ps')[l] = p at ep
          have ne : ((aheadQ (p0 :: ps') hh v (p0 :: ps').length).map fun j => V.int (j : Nat)).isEmpty = false := by
            cases z : aheadQ (p0 :: ps') hh v (p0 :: ps').length with
            | nil => rw [z] at ml; cases ml
            | cons _ _ => rfl
          rw [ne]
          have bp := hbits p (List.mem_of_getElem? ep)
          refine iteF ⟨_, rfl, _, rfl, D, _, _, .int (l : Nat), rfl, rfl, SqL.of hl1, at_last (by rw [List.getLast?_map, hg]; rfl), ?_⟩
          refine ⟨_, rfl, _, _, rfl, rfl, _, rfl, a, ws, rfl, sq1, rfl, _, rfl, ?_⟩
          obtain ⟨ta, txs, tx, td, ew, h1, h2, h3⟩ := get tt ep
          obtain ⟨ha_, hxs, hxx, hd, ew', g1, g2, g3⟩ := get hh ep
          have same : V.ref ha_ = V.ref ta := by
            rw [ew] at ew'
            exact (Option.some.inj ew').symm
          by_cases c : l + 1 = ws.length
          · rw [decide_eq_true (show V.int ((l : Nat) + 1 : Int) = V.int (ws.length : Nat) by rw [← c]; rfl)]
            refine iteT ⟨_, rfl, _, rfl, a, ws, _, _, rfl, rfl, sq1, atI_nat ew, _, rfl, ta, txs, _, _, rfl, rfl, SqT.of h1, h2, _, rfl, _, rfl, _, rfl, a, ws, _, _, rfl, rfl, sq1, atI_nat ew', _, rfl, ha_, hxs, _, _, rfl, rfl, SqT.of g1, g2, x, dx, _, _, rfl, hx1, T.ins_Amount g3, .inl rfl, ?_⟩
            refine ⟨x, .ref hxx, v, rfl, ⟨dx, hx1⟩, up bv, .amt ⟨hd, g3⟩, .inl ⟨_, .obj ⟨hd, g3⟩, up (bp.crd hh), fun u H3 s3 hu hU => ?_⟩⟩
            obtain ⟨du, hU'⟩ := id hU
            refine ⟨tx, td, _, _, rfl, s3 _ _ h3, T.ins_Amount hU', .inl rfl, tx, .ref u, _, rfl, ⟨td, s3 _ _ h3⟩, up (bp.crd tt), .amt hU, .inl ⟨_, .obj hU, (bv.sub (bp.crd hh)).mono (by decide), fun r H4 s4 hr hR => ?_⟩⟩
            refine k r H4 ((sm.trans s3).trans s4) ?_
            have en : (p0 :: ps')[l + 1]? = none := List.getElem?_eq_none (by omega)
            have e2 : ledQ (p0 :: ps') v hh tt = crd tt p + (v - crd hh p) := by
              unfold ledQ
              simp only [hg, ep, en]
            rw [e2]
            exact hR
          · rw [decide_eq_false (show ¬ V.int ((l : Nat) + 1 : Int) = V.int (ws.length : Nat) from fun z => c (by have := V.int.inj z; omega))]
            have l2 : l + 1 < (p0 :: ps').length := by omega
            have eq : (p0 :: ps')[l + 1]? = some (p0 :: ps')[l + 1] := List.getElem?_eq_getElem l2
            generalize hql : (p0 :: ps')[l + 1] = q at eq
            have bq := hbits q (List.mem_of_getElem? eq)
            obtain ⟨ua, uxs, ux, ud, ev, i1, i2, i3⟩ := get tt eq
            obtain ⟨va, vxs, vx, vd, ev', j1, j2, j3⟩ := get hh eq
            have same2 : V.ref va = V.ref ua := by
              rw [ev] at ev'
              exact (Option.some.inj ev').symm
            cases same
            cases same2
            have bw := Rising.step hris ep eq
            have nz : crd hh q - crd hh p ≠ 0 := by
              cases hh
              · have := bw.1
                show q.1 - p.1 ≠ 0
                grind
              · have := bw.2
                show q.2 - p.2 ≠ 0
                grind
            refine iteF ⟨_, rfl, _, rfl, a, ws, _, _, rfl, rfl, sq1, atI_nat ew, _, rfl, _, rfl, _, _, rfl, rfl, a, ws, _, _, rfl, rfl, sq1, (by rw [show ((l : Nat) + 1 : Int) = ((l + 1 : Nat) : Int) by omega]; exact atI_nat ev), _, _, rfl, ?_⟩
            have bd1 : Bits 801 (v - crd hh p) := bv.sub (bp.crd hh)
            have bd2 : Bits 801 (crd hh q - crd hh p) := (bq.crd hh).sub (bp.crd hh)
            have bd3 : Bits 801 (crd tt q - crd tt p) := (bq.crd tt).sub (bp.crd tt)
            have bd4 : Bits 1602 ((v - crd hh p) / (crd hh q - crd hh p)) := bd1.div bd2 nz
            have bd5 : Bits 2403 ((v - crd hh p) / (crd hh q - crd hh p) * (crd tt q - crd tt p)) := bd4.mul bd3
            refine ⟨_, rfl, _, rfl, _, rfl, _, _, _, _, rfl, rfl, SqT.of g1, g2, x, dx, _, _, rfl, hx1, T.ins_Amount g3, .inl rfl, x, .ref hxx, v, rfl, ⟨dx, hx1⟩, up bv, .amt ⟨hd, g3⟩, .inl ⟨_, .obj ⟨hd, g3⟩, up (bp.crd hh), fun u H3 s3 hu hU => ?_⟩⟩
            obtain ⟨du, hU'⟩ := id hU
            refine ⟨u, du, _, rfl, hU', rfl, ?_⟩
            refine ⟨_, rfl, _, rfl, _, _, _, _, rfl, rfl, SqT.of (s3 _ _ j1), j2, _, rfl, _, rfl, _, _, _, _, rfl, rfl, SqT.of (s3 _ _ g1), g2, vx, vd, _, _, rfl, s3 _ _ j3, T.ins_Amount (s3 _ _ g3), .inl rfl, vx, .ref hxx, _, rfl, ⟨vd, s3 _ _ j3⟩, up (bq.crd hh), .amt ⟨hd, s3 _ _ g3⟩, .inl ⟨_, .obj ⟨hd, s3 _ _ g3⟩, up (bp.crd hh), fun z H4 s4 hz hZ => ?_⟩⟩
            refine ⟨u, .ref z, _, rfl, hU.up s4, bd1.mono (by decide), .amt hZ, .inl ⟨_, .obj hZ, bd2.mono (by decide), nz, fun r1 H5 s5 hr1 hR1 => ?_⟩⟩
            have s35 := (s3.trans s4).trans s5
            refine ⟨_, rfl, _, rfl, _, _, _, _, rfl, rfl, SqT.of (s35 _ _ h1), h2, _, rfl, _, rfl, _, rfl, _, _, _, _, rfl, rfl, SqT.of (s35 _ _ i1), i2, _, rfl, _, rfl, _, _, _, _, rfl, rfl, SqT.of (s35 _ _ h1), h2, ux, ud, _, _, rfl, s35 _ _ i3, T.ins_Amount (s35 _ _ h3), .inl rfl, ux, .ref tx, _, rfl, ⟨ud, s35 _ _ i3⟩, up (bq.crd tt), .amt ⟨td, s35 _ _ h3⟩, .inl ⟨_, .obj ⟨td, s35 _ _ h3⟩, up (bp.crd tt), fun d1 H6 s6 hd1 hD1 => ?_⟩⟩
            obtain ⟨dr, hR1'⟩ := hR1.up s6
            obtain ⟨dd, hD1'⟩ := id hD1
            refine ⟨r1, dr, _, _, rfl, hR1', T.ins_Amount hD1', .inl rfl, r1, .ref d1, _, rfl, ⟨dr, hR1'⟩, bd4.mono (by decide), .amt hD1, .inl ⟨_, .obj hD1, bd3.mono (by decide), fun m H7 s7 hm hM => ?_⟩⟩
            obtain ⟨dm, hM'⟩ := id hM
            have s37 := (s35.trans s6).trans s7
            refine ⟨tx, td, _, _, rfl, s37 _ _ h3, T.ins_Amount hM', .inl rfl, tx, .ref m, _, rfl, ⟨td, s37 _ _ h3⟩, up (bp.crd tt), .amt hM, .inl ⟨_, .obj hM, bd5.mono (by decide), fun r H8 s8 hr hR => ?_⟩⟩
            refine k r H8 ((sm.trans s37).trans s8) ?_
            have e2 : ledQ (p0 :: ps') v hh tt = crd tt p + (v - crd hh p) / (crd hh q - crd hh p) * (crd tt q - crd tt p) := by
              unfold ledQ
              simp only [hg, ep, eq]
            rw [e2]
            exact hR
end
end K08

set_option maxHeartbeats 4000000
namespace K08
open PySem PySem.Spec PyProof.Rows L2 AT
section
variable {P : Program} {w : World} {K : PySem.W.Frag} {mg : Str → Option Value} {base : Heap}
def steepQ (ps : List (Rat × Rat)) : List Rat := [1] ++ slopes ps ++ [1]
/-- the places of the first n points at which the pace changes -/
def bendAt (ps : List (Rat × Rat)) (n : Nat) : List (Rat × Rat) := (List.range n).filterMap fun i => if (steepQ ps)[i]? ≠ (steepQ ps)[i + 1]? then ps[i]? else none
def bendQ (ps : List (Rat × Rat)) : List (Rat × Rat) := if bendAt ps ps.length = [] then [(0, ledQ ps 0 false true)] else bendAt ps ps.length
theorem bend_step (ps : List (Rat × Rat)) {i : Nat} {p : Rat × Rat} {x y : Rat} (h : ps[i]? = some p) (hx : (steepQ ps)[i]? = some x) (hy : (steepQ ps)[i + 1]? = some y) : bendAt ps (i + 1) = bendAt ps i ++ (if x = y then [] else [p]) := by
  unfold bendAt
  rw [List.range_succ, List.filterMap_append]
  congr 1
  by_cases z : x = y
  · simp [hx, hy, z]
  · simp [hx, hy, z, h]
theorem bend_len (ps : List (Rat × Rat)) (i : Nat) : (bendAt ps i).length ≤ i := by
  unfold bendAt
  exact Nat.le_trans (List.length_filterMap_le _ _) (by rw [List.length_range]; exact Nat.le_refl _)
theorem steep_len {ps : List (Rat × Rat)} (h : ps ≠ []) : (steepQ ps).length = ps.length + 1 := by
  unfold steepQ slopes
  have := List.length_pos_iff.mpr h
  simp only [List.length_append, List.length_zipWith, List.length_tail, List.length_cons, List.length_nil]
  omega
def spBends (K : PySem.W.Frag) : Sp := fun vs H Q _ => ∃ (a : Addr) (ws : List V) (b : Bool) (ps : List (Rat × Rat)), vs = [.ref a] ∧ H a = some (mkS ws b) ∧ Pts K H ws ps ∧ ps.length < 1000 ∧ (b = false → ps ≠ []) ∧ Rising ps ∧ (∀ p ∈ ps, BitsP 400 p) ∧
  ∀ D us H', Same H H' → H D = none → H' D = some (.lst us) → Pts K H' us (bendQ ps) → Q (.ref D) H'
theorem sc_bends : FnScope ["points", "steep", "at", "point", "found"] ["points"] (defScope s_bends) := ⟨rfl, rfl, rfl, by decide +kernel, rfl, by decide +kernel, by decide +kernel⟩
theorem ok_bends (T : Tx K mg base) : Ok P w K mg base 10 (d_bends.loc K) ["points"] (spBends K) := by
  refine mk_ok (k := 9) T.f_bends sc_bends (fun _ _ _ _ _ _ us hl => match us, hl with | [_], _ => rfl) (fun vs H Q E h => ?_) (fun cdv A outer s H vs Q E hr h => ?_)
  · obtain ⟨a, ws, b, ps, rfl, _⟩ := h
    rfl
  · obtain ⟨a, ws, b, ps, rfl, ha, hp, hlen, hb, hris, hbits, k⟩ := h
    refine ⟨_, (pss_cons (ps_set (i := 1) sc_bends.nd rfl (Or.inr rfl) (ok_call (ok_paces T) (hr.mono (by decide)) rfl T.g_paces passL (pa_cons (pv 0) pa_nil)))
      (pss_cons (ps_setLc (i := 4) (own := [("at", 2), ("point", 3)]) (g := (gTup K 2 (gCons (gName 2) (gCons (gName 3) gNil)))) (by rfl) sc_bends.nd rfl rfl (sw_true rfl rfl rfl (by decide +kernel)) (pi_enumA (by rfl) T.b_enumerate (pa_cons (pv 0) pa_nil)) (blkOk_by (own := [("at", 2), ("point", 3)]) (N := ["points", "steep", "at", "point", "found"]) (sc := defScope s_bends) (by decide +kernel)) (fun _ _ _ _ _ => (pg_tup rfl (pgs_cons (pg_name (i := 2) sc_bends.nd rfl (Or.inl rfl)) (pgs_cons (pg_name (i := 3) sc_bends.nd rfl (Or.inl rfl)) pgs_nil)))) (fun _ _ _ _ _ => (pts_one (pt_cmpR (show OpR _ _ (rNeO K _ _ _) from (op_neO T.eq_Amount (ok_Amount_eq_ T) (hr.mono (by decide)) passL)) (pe_ix (show IxR _ (rIxL K) from ix_list) (pv 1) (pv 2) (fun _ _ => rfl)) (pe_ix (show IxR _ (rIxL K) from ix_list) (pv 1) (pe_op op_add (pv 2) pe_int) (fun _ _ => rfl)) (nomark _)))) (fun _ _ _ _ _ => (pv 3)))
      (pss_one (ps_ret (pe_ifExp (pt_truth (pv 4) (by intro _; rfl)) (pv 4) (pe_lst (pa_cons (pe_tup (pa_cons (ok_makeD T.mkr_Amount (okd_Amount_init_ T) (hr.mono (by decide)) rfl T.g_Amount (passE rfl rfl rfl rfl) (pa_cons pe_int pa_nil)) (pa_cons (ok_call (ok_led T) (hr.mono (by decide)) rfl T.g_led passL (pa_cons (pv 0) (pa_cons (ok_makeD T.mkr_Amount (okd_Amount_init_ T) (hr.mono (by decide)) rfl T.g_Amount (passE rfl rfl rfl rfl) (pa_cons pe_int pa_nil)) (pa_cons pe_int (pa_cons pe_int pa_nil))))) pa_nil))) pa_nil))))))), ?_⟩
    have hl := hp.length
    refine ⟨_, rfl, a, ws, b, ps, rfl, ha, hp, hlen, hb, hris, (fun p m => ⟨(hbits p m).1.mono (by decide), (hbits p m).2.mono (by decide)⟩), fun S ss H1 s1 hS hS1 hq => ?_⟩
    have ha1 := s1 _ _ ha
    refine ⟨_, rfl, a, ws, rfl, (SqB.of ha1).or, fun J hJ D hD => ?_⟩
    obtain ⟨G, wk, hG⟩ := en_walk hJ
    have hHa : ∀ H', Same H1 H' → H' a = H1 a := fun H' s => by rw [s _ _ ha1, ha1]
    have hsz : sizeLine = 16777216 := sizeLine_eq
    refine lc_it wk (fun i H' => ∃ us, Same H1 H' ∧ H' D = some (.lst us) ∧ Pts K H' us (bendAt ps i)) ⟨[], AT.Same.up hD, upd_same, .nil⟩ (fun i H' hi ⟨us, sm, _⟩ => hG _ (hHa _ sm)) (fun i z H' H2 hi ⟨us, sm, hl1, hu⟩ hY => ?_) (fun H' ⟨us, sm, hl1, hu⟩ => ?_)
    · obtain ⟨Tp, x0, y0, rfl, hTp, rfl, e1, hy0⟩ := hY
      cases e1
      have hy0 : ws[i]? = some y0 := hy0
      have s2 := AT.Same.up (o := .tup [.int (i : Nat), y0]) hTp
      obtain ⟨p1, ep, pt1⟩ := hp.at hy0
      have np : ps ≠ [] := by rintro rfl; simp at ep
      have li : i < ps.length := (List.getElem?_eq_some_iff.mp ep).1
      have sl := steep_len np
      have ex : (steepQ ps)[i]? = some (steepQ ps)[i] := List.getElem?_eq_getElem (by omega)
      have ey : (steepQ ps)[i + 1]? = some (steepQ ps)[i + 1] := List.getElem?_eq_getElem (by omega)
      generalize (steepQ ps)[i] = x at ex
      generalize (steepQ ps)[i + 1] = y at ey
      obtain ⟨xa, exa, hxa⟩ := hq.get ex
      obtain ⟨ya, eya, hya⟩ := hq.get ey
      have s12 := sm.trans s2
      obtain ⟨dx, hxa'⟩ := hxa.up s12
      obtain ⟨dy, hya'⟩ := hya.up s12
      refine ⟨Tp, _, rfl, SqT.of upd_same, rfl, _, _, rfl, _, _, rfl, rfl, rfl, ?_⟩
      refine ⟨_, rfl, _, rfl, S, ss, _, _, rfl, rfl, SqL.of (s12 _ _ hS1), atI_nat exa, _, rfl, _, rfl, _, _, rfl, rfl, S, ss, _, _, rfl, rfl, SqL.of (s12 _ _ hS1), (by rw [show ((i : Nat) + 1 : Int) = ((i + 1 : Nat) : Int) by omega]; exact atI_nat eya), xa, dx, _, rfl, hxa', ⟨_, T.ins_Amount hya', .inl rfl⟩, xa, ya, x, y, rfl, ⟨dx, hxa'⟩, ⟨dy, hya'⟩, _, rfl, _, rfl, ?_⟩
      have st := bend_step ps ep ex ey
      have lb := bend_len ps i
      have lu := hu.length
      by_cases c : x = y
      · rw [decide_eq_true c]
        rw [if_pos c, List.append_nil] at st
        refine iteF ⟨us, s12, s2 _ _ hl1, ?_⟩
        rw [st]
        exact hu.up s2
      · rw [decide_eq_false c]
        rw [if_neg c] at st
        refine iteT ⟨_, rfl, us, s2 _ _ hl1, (by omega), us ++ [y0], AT.Same.new s12 hD, upd_same, ?_⟩
        rw [st]
        exact ((hu.up s2).app ((pt1.up s1).up s12)).set (s2 _ _ hl1)
    · rw [hl] at hu
      refine ⟨_, rfl, _, .inl ⟨us, SqL.of hl1, rfl⟩, ?_⟩
      cases hw : us.isEmpty with
      | false =>
        have ne : bendAt ps ps.length ≠ [] := by
          intro z
          rw [z] at hu
          cases hu
          simp at hw
        refine iteT ⟨_, rfl, k D us H' (s1.trans sm) (none_of s1 hD) hl1 ?_⟩
        unfold bendQ
        rw [if_neg ne]
        exact hu
      | true =>
        have e0 : us = [] := by simpa using hw
        have e1 : bendAt ps ps.length = [] := List.length_eq_zero_iff.mp (by rw [← hu.length, e0]; rfl)
        have fin : tLst (tCons (tTup (tCons (tMake (He.ga K "Amount") (spAmt K) [.int 1] E (tCons (tC (.int 0)) tNil)) (tCons (tCall (spLed K) [] E0 (tCons (tVar 0) (tCons (tMake (He.ga K "Amount") (spAmt K) [.int 1] E (tCons (tC (.int 0)) tNil)) (tCons (tC (.int 0)) (tCons (tC (.int 1)) tNil))))) tNil))) tNil) ([some (.ref a), some (.ref S), none, none, some (.ref D)] : L2.St) H' Q := by
          refine fun x dx hx hdx hne => ⟨x, dx, _, _, rfl, upd_same, .int _, .int _, .inl ⟨0, 1, rfl, rfl, by decide, by decide +kernel, rfl, ?_⟩⟩
          have sA := made_same (o1 := .ins (cA K) dx []) (o2 := .ins (cA K) dx (amtQ (Rat.divInt 0 1))) hx hdx
          have hX : IsQ K (upd (upd (upd H' dx (.own x)) x (.ins (cA K) dx [])) x (.ins (cA K) dx (amtQ (Rat.divInt 0 1)))) x (0 : Rat) := ⟨dx, by rw [upd_same, q_int]; rfl⟩
          generalize upd (upd (upd H' dx (.own x)) x (.ins (cA K) dx [])) x (.ins (cA K) dx (amtQ (Rat.divInt 0 1))) = HA at sA hX ⊢
          refine ⟨_, rfl, fun y dy hy hdy hne2 => ⟨y, dy, _, _, rfl, upd_same, .int _, .int _, .inl ⟨0, 1, rfl, rfl, by decide, by decide +kernel, rfl, ?_⟩⟩⟩
          have sB := made_same (o1 := .ins (cA K) dy []) (o2 := .ins (cA K) dy (amtQ (Rat.divInt 0 1))) hy hdy
          have hY : IsQ K (upd (upd (upd HA dy (.own y)) y (.ins (cA K) dy [])) y (.ins (cA K) dy (amtQ (Rat.divInt 0 1)))) y (0 : Rat) := ⟨dy, by rw [upd_same, q_int]; rfl⟩
          generalize upd (upd (upd HA dy (.own y)) y (.ins (cA K) dy [])) y (.ins (cA K) dy (amtQ (Rat.divInt 0 1))) = HB at sB hY ⊢
          have s0B : Same H HB := ((s1.trans sm).trans sA).trans sB
          refine ⟨a, ws, b, ps, y, 0, false, true, rfl, s0B _ _ ha, hp.up s0B, hlen, hris, hbits, hY, ⟨(by decide +kernel), (by decide +kernel)⟩, fun r H3 s3 hR => ?_⟩
          refine ⟨(by show 2 ≤ sizeLine; decide), fun t ht => ⟨(by show 1 ≤ sizeLine; decide), fun L hL => ?_⟩⟩
          have sC := AT.Same.up (o := .tup [.ref x, .ref r]) ht
          have sD := AT.Same.up (o := .lst [.ref t]) hL
          refine k L [.ref t] _ ((s0B.trans s3).trans (sC.trans sD)) (none_of ((s0B.trans s3).trans sC) hL) upd_same ?_
          unfold bendQ
          rw [if_pos e1]
          refine .cons ⟨t, x, r, rfl, sD _ _ upd_same, ((hX.up sB).up s3).up (sC.trans sD), hR.up (sC.trans sD)⟩ .nil
        exact iteF fin
/-! ### the map -/
abbrev cM (K : PySem.W.Frag) : Addr := He.ga K "TempoMap"
/-- at m stands a map with the points ps -/
def IsMap (K : PySem.W.Frag) (H : Hp) (m : Addr) (ps : List (Rat × Rat)) : Prop := ∃ dx t ws, H m = some (.ins (cM K) dx [("own_points", .ref t)]) ∧ H t = some (.tup ws) ∧ Pts K H ws ps
theorem IsMap.up {H H' : Hp} {m : Addr} {ps : List (Rat × Rat)} (h : IsMap K H m ps) (s : Same H H') : IsMap K H' m ps := by
  obtain ⟨dx, t, ws, h1, h2, h3⟩ := h
  exact ⟨dx, t, ws, s _ _ h1, s _ _ h2, h3.up s⟩
def spPoints (K : PySem.W.Frag) : Sp := fun vs H Q _ => ∃ m ps, vs = [.ref m] ∧ IsMap K H m ps ∧ ∀ D us H', Same H H' → H D = none → H' D = some (.lst us) → Pts K H' us ps → Q (.ref D) H'
theorem sc_TempoMap_points : FnScope ["self"] ["self"] (defScope s_TempoMap_points) := ⟨rfl, rfl, rfl, by decide +kernel, rfl, by decide +kernel, by decide +kernel⟩
theorem ok_TempoMap_points (T : Tx K mg base) : Ok P w K mg base 1 (d_TempoMap_points.loc K) ["self"] (spPoints K) := by
  refine mk_ok (k := 0) T.f_TempoMap_points sc_TempoMap_points (fun _ _ _ _ _ _ us hl => match us, hl with | [_], _ => rfl) (fun vs H Q E h => ?_) (fun cdv A outer s H vs Q E hr h => ?_)
  · obtain ⟨m, ps, rfl, _⟩ := h
    rfl
  · obtain ⟨m, ps, rfl, ⟨dx, t, ws, h1, h2, h3⟩, k⟩ := h
    refine ⟨_, (pss_one (ps_ret (pe_callTy call_list_of (by rfl) T.b_list (by decide +kernel) (pa_cons (pe_fld (pv 0) rfl) pa_nil)))), ?_⟩
    refine ⟨_, rfl, m, _, dx, _, _, rfl, h1, T.cls_TempoMap, T.no_TempoMap_own_points, rfl, t, ws, rfl, .inr (SqT.of h2), fun D hD => ?_⟩
    exact k D ws _ (AT.Same.up hD) hD upd_same (h3.up (AT.Same.up hD))
end
end K08

set_option maxHeartbeats 4000000
namespace K08
open PySem PySem.Spec PyProof.Rows L2 AT
section
variable {P : Program} {w : World} {K : PySem.W.Frag} {mg : Str → Option Value} {base : Heap}
theorem Pts.setI {H : Hp} {vs : List V} {ps : List (Rat × Rat)} {m C dx : Addr} {o : HO} (h : Pts K H vs ps) (hm : H m = some (.ins C dx [])) : Pts K (upd H m o) vs ps := by
  induction h with
  | nil => exact .nil
  | cons a b ih =>
    refine .cons ?_ ih
    obtain ⟨t, x, y, e, h1, ⟨d2, h2⟩, ⟨d3, h3⟩⟩ := a
    have n1 : t ≠ m := by rintro rfl; rw [h1] at hm; cases hm
    have n2 : x ≠ m := by rintro rfl; rw [h2] at hm; cases hm
    have n3 : y ≠ m := by rintro rfl; rw [h3] at hm; cases hm
    exact ⟨t, x, y, e, by rw [upd_ne n1]; exact h1, ⟨d2, by rw [upd_ne n2]; exact h2⟩, ⟨d3, by rw [upd_ne n3]; exact h3⟩⟩
/-- how the making of a map of the items xs ends -/
def MapEnd (K : PySem.W.Frag) (H : Hp) (m : Addr) (xs : List V) (ps : List (Rat × Rat)) (Q : VK) (E : XK) : Prop :=
  (ps.length = xs.length ∧ ∀ H' : Hp, (∀ b o, b ≠ m → H b = some o → H' b = some o) → IsMap K H' m (bendQ ps) → Q .non H') ∨
  (∃ v, xs[ps.length]? = some v ∧ NoItem K H v ∧ Rf K "InvalidPoint" "value" v H E) ∨
  (∃ v p q, xs[ps.length]? = some v ∧ Item K H v q ∧ BitsP 3000 q ∧ ps.getLast? = some p ∧ ¬ Below p q ∧ Rf K "Falling" "index" (.int (ps.length : Nat)) H E)
def spMap (K : PySem.W.Frag) : Sp := fun vs H Q E => ∃ m dx v, vs = [.ref m, v] ∧ H m = some (.ins (cM K) dx []) ∧ AnyV K H v ∧ (((¬ ∃ xs, Sq H v xs) ∧ Rf K "InvalidPart" "value" v H E) ∨
  ∃ xs ps, Sq H v xs ∧ xs.length < 1000 ∧ (∀ (i : Nat) (p : Rat × Rat), ps[i]? = some p → BitsP 400 p ∧ ∃ x, xs[i]? = some x ∧ Item K H x p) ∧ Rising ps ∧ MapEnd K H m xs ps Q E)
theorem sc_TempoMap_init_ : FnScope ["self", "points"] ["self", "points"] (defScope s_TempoMap_init_) := ⟨rfl, rfl, rfl, by decide +kernel, rfl, by decide +kernel, by decide +kernel⟩
theorem both_TempoMap (T : Tx K mg base) : Ok P w K mg base 12 (He.ma K (He.ga K "TempoMap") "__init__") ["self", "points"] (spMap K) ∧ OkD P w K mg base 12 (He.ma K (He.ga K "TempoMap") "__init__") ["self", "points"] [.ref (dflA (fun K => He.ma K (He.ga K "TempoMap") "__init__") 0 K)] (spMap K) := by
  refine mk_okD1 (k := 11) (n := 1) T.f_TempoMap_init_ sc_TempoMap_init_ rfl (fun _ _ _ _ _ _ _ us u hl => match us, hl with | [_], _ => ⟨_, rfl, rfl⟩) (fun _ _ _ _ _ _ _ us u hl => match us, hl with | [_, _], _ => ⟨_, rfl, rfl⟩) (fun vs H Q E h => ?_) (fun cdv A outer s H vs Q E hr h => ?_)
  · obtain ⟨m, dx, v, rfl, _⟩ := h
    rfl
  · obtain ⟨m, dx, v, rfl, hm, hv, hc⟩ := h
    refine ⟨_, (pss_one (ps_fld (pv 0) (pe_callTy call_tuple_of (by rfl) T.b_tuple (by decide +kernel) (pa_cons (ok_call (ok_bends T) (hr.mono (by decide)) rfl T.g_bends passL (pa_cons (ok_call (ok_checked_points T) (hr.mono (by decide)) rfl T.g_checked_points (passE rfl rfl rfl rfl) (pa_cons (pv 1) pa_nil)) pa_nil)) pa_nil)) rfl)), ?_⟩
    refine ⟨_, rfl, v, rfl, hv, ?_⟩
    rcases hc with ⟨hn, k⟩ | ⟨xs, ps, hx, hlen, hps, hris, hend⟩
    · exact .inl ⟨hn, k⟩
    · refine .inr ⟨xs, ps, hx, hlen, (fun i p e => ⟨⟨(hps i p e).1.1.mono (by decide), (hps i p e).1.2.mono (by decide)⟩, (hps i p e).2⟩), hris, ?_⟩
      rcases hend with ⟨e, k⟩ | z | z
      · refine .inl ⟨e, fun D us H1 s1 hD hl hp => ?_⟩
        have hbits : ∀ p ∈ ps, BitsP 400 p := fun p hm => by
          obtain ⟨i, hi⟩ := List.getElem?_of_mem hm
          exact (hps i p hi).1
        refine ⟨D, us, true, ps, rfl, hl, hp, (by omega), (fun z => nomatch z), hris, hbits, fun D2 us2 H2 s2 hD2 hl2 hp2 => ?_⟩
        refine ⟨D2, us2, rfl, .inl ⟨SqL.of hl2, fun t ht => ?_⟩⟩
        have s3 := AT.Same.up (o := .tup us2) ht
        have s03 := (s1.trans s2).trans s3
        refine ⟨_, rfl, m, _, dx, _, rfl, s03 _ _ hm, T.cls_TempoMap, T.no_TempoMap_own_points, (by decide), ?_⟩
        refine k _ (fun b o hb e => by rw [upd_ne hb]; exact s03 _ _ e) ⟨dx, t, us2, upd_same, ?_, ?_⟩
        · rw [upd_ne (by rintro rfl; rw [(s1.trans s2) _ _ hm] at ht; cases ht)]
          exact upd_same
        · exact (hp2.up s3).setI (s03 _ _ hm)
      · exact .inr (.inl z)
      · exact .inr (.inr z)
theorem ok_TempoMap_init_ (T : Tx K mg base) : Ok P w K mg base 12 (He.ma K (He.ga K "TempoMap") "__init__") ["self", "points"] (spMap K) := (both_TempoMap T).1
end
end K08

set_option maxHeartbeats 4000000
namespace K08
open PySem PySem.Spec PyProof.Rows L2 AT
/-! ### the walk's words and the plain law's -/
theorem ris_of : ∀ {ps : List (Rat × Rat)}, Rising ps → PL.Ris ps
  | [], _ => trivial
  | [_], _ => trivial
  | _ :: _ :: _, h => ⟨h.1, ris_of h.2⟩
theorem rising_of : ∀ {ps : List (Rat × Rat)}, PL.Ris ps → Rising ps
  | [], _ => trivial
  | [_], _ => trivial
  | _ :: _ :: _, h => ⟨h.1, rising_of h.2⟩
theorem ahead_cons (p : Rat × Rat) (r : List (Rat × Rat)) (v : Rat) (n : Nat) : aheadQ (p :: r) false v (n + 1) = (if p.1 ≤ v then [0] else []) ++ (aheadQ r false v n).map (· + 1) := by
  unfold aheadQ
  rw [List.range_succ_eq_map, List.filter_cons, List.filter_map]
  by_cases c : p.1 ≤ v
  · rw [if_pos (by simpa [crd] using c), if_pos c]
    exact congrArg (fun z => 0 :: List.map (· + 1) z) (List.filter_congr fun i _ => by rfl)
  · rw [if_neg (by simpa [crd] using c), if_neg c]
    exact congrArg (fun z => List.map (· + 1) z) (List.filter_congr fun i _ => by rfl)
theorem ahead_none : ∀ {r : List (Rat × Rat)} {v : Rat}, (∀ q ∈ r, ¬ q.1 ≤ v) → aheadQ r false v r.length = []
  | [], _, _ => rfl
  | p :: r, v, h => by
    rw [List.length_cons, ahead_cons, if_neg (h p (by simp)), ahead_none fun q hq => h q (List.mem_cons_of_mem _ hq)]
    rfl
/-- behind the last point that is not above v -/
def atQ (ps : List (Rat × Rat)) (v : Rat) (o : Option Nat) : Option Rat := match o with
  | none => none
  | some l => match ps[l]?, ps[l + 1]? with
    | some p, none => some (p.2 + (v - p.1))
    | some p, some q => some (p.2 + (v - p.1) / (q.1 - p.1) * (q.2 - p.2))
    | _, _ => none
theorem ahead_go : ∀ {r : List (Rat × Rat)} {p : Rat × Rat} {v : Rat}, PL.Ris (p :: r) → p.1 ≤ v → ∃ l, (aheadQ (p :: r) false v (r.length + 1)).getLast? = some l ∧ atQ (p :: r) v (some l) = some (PL.goQ p r v)
  | [], p, v, _, h => ⟨0, by rw [ahead_cons, if_pos h]; rfl, rfl⟩
  | q :: r, p, v, hr, h => by
    by_cases c : v < q.1
    · refine ⟨0, ?_, ?_⟩
      · have hn : aheadQ (q :: r) false v (q :: r).length = [] := ahead_none fun z hz => by
          rcases List.mem_cons.mp hz with rfl | hz
          · grind
          · have := (hr.2.all z hz).1
            grind
        rw [ahead_cons, if_pos h, hn]
        rfl
      · show some _ = some (if v < q.1 then _ else _)
        rw [if_pos c]
    · obtain ⟨l, h1, h2⟩ := ahead_go (r := r) (p := q) (v := v) hr.2 (by grind)
      refine ⟨l + 1, ?_, ?_⟩
      · rw [ahead_cons]
        have h1' : (aheadQ (q :: r) false v (q :: r).length).getLast? = some l := h1
        rw [List.getLast?_append, List.getLast?_map, h1']
        rfl
      · have e : PL.goQ p (q :: r) v = PL.goQ q r v := by
          show (if v < q.1 then _ else _) = _
          rw [if_neg c]
        rw [e, ← h2]
        unfold atQ
        simp
theorem led_eq {ps : List (Rat × Rat)} (hr : Rising ps) (v : Rat) : ledQ ps v false true = PL.ledR ps v := by
  cases ps with
  | nil => rfl
  | cons p r =>
    have hr' := ris_of hr
    unfold ledQ
    show (match (aheadQ (p :: r) false v (r.length + 1)).getLast? with | none => _ | some l => _) = if v < p.1 then _ else _
    by_cases c : v < p.1
    · rw [if_pos c]
      have hn : aheadQ (p :: r) false v (p :: r).length = [] := ahead_none fun z hz => by
        rcases List.mem_cons.mp hz with rfl | hz
        · grind
        · have := (hr'.all z hz).1
          grind
      have hn' : aheadQ (p :: r) false v (r.length + 1) = [] := hn
      rw [hn']
      rfl
    · rw [if_neg c]
      obtain ⟨l, h1, h2⟩ := ahead_go hr' (show p.1 ≤ v by grind)
      rw [h1]
      unfold atQ at h2
      dsimp only at h2 ⊢
      split at h2
      · rename_i a b e1 e2
        first
          | (rw [e1, e2]; exact Option.some.inj h2)
          | exact Option.some.inj h2
      · rename_i a b e1 e2
        first
          | (rw [e1, e2]; exact Option.some.inj h2)
          | exact Option.some.inj h2
      · cases h2
/-- the slopes with another one ahead -/
def steepM (m : Rat) (ps : List (Rat × Rat)) : List Rat := [m] ++ slopes ps ++ [1]
theorem steep_one (m : Rat) (p : Rat × Rat) : steepM m [p] = [m, 1] := rfl
theorem steep_two (m : Rat) (p q : Rat × Rat) (r : List (Rat × Rat)) : steepM m (p :: q :: r) = m :: steepM (PL.slp p q) (q :: r) := rfl
def bendM (m : Rat) (ps : List (Rat × Rat)) (n : Nat) : List (Rat × Rat) := (List.range n).filterMap fun i => if (steepM m ps)[i]? ≠ (steepM m ps)[i + 1]? then ps[i]? else none
theorem bend_rec : ∀ (r : List (Rat × Rat)) (p : Rat × Rat) (m : Rat), bendM m (p :: r) (r.length + 1) = PL.bendR m (p :: r)
  | [], p, m => by
    unfold bendM
    rw [steep_one]
    by_cases c : m = 1
    · rw [PL.bend_eq (by exact c), c]
      simp [PL.bendR]
    · rw [PL.bend_ne (by exact c)]
      simp [PL.bendR, c]
  | q :: r, p, m => by
    have ih := bend_rec r q (PL.slp p q)
    have e : bendM m (p :: q :: r) ((q :: r).length + 1) = (if m = PL.slp p q then [] else [p]) ++ bendM (PL.slp p q) (q :: r) (r.length + 1) := by
      unfold bendM
      rw [List.range_succ_eq_map, List.filterMap_cons, List.filterMap_map]
      have e2 : ((fun i => if (steepM m (p :: q :: r))[i]? ≠ (steepM m (p :: q :: r))[i + 1]? then (p :: q :: r)[i]? else none) ∘ Nat.succ) = (fun i => if (steepM (PL.slp p q) (q :: r))[i]? ≠ (steepM (PL.slp p q) (q :: r))[i + 1]? then (q :: r)[i]? else none) := by
        funext i
        show (if (steepM m (p :: q :: r))[i + 1]? ≠ (steepM m (p :: q :: r))[i + 1 + 1]? then (p :: q :: r)[i + 1]? else none) = _
        rw [steep_two, List.getElem?_cons_succ, List.getElem?_cons_succ, List.getElem?_cons_succ]
      rw [e2]
      have e3 : (steepM m (p :: q :: r))[0 + 1]? = some (PL.slp p q) := by
        rw [steep_two]
        cases r <;> rfl
      rw [e3]
      have e4 : (steepM m (p :: q :: r))[0]? = some m := rfl
      rw [e4]
      by_cases c : m = PL.slp p q
      · simp [c]
      · simp [c]
    rw [e, ih]
    by_cases c : m = PL.slp p q
    · rw [if_pos c]
      exact (PL.bend_eq (r := q :: r) (by exact c)).symm
    · rw [if_neg c]
      exact (PL.bend_ne (r := q :: r) (by exact c)).symm
theorem bend_at (ps : List (Rat × Rat)) : bendAt ps ps.length = PL.bendR 1 ps := by
  cases ps with
  | nil => rfl
  | cons p r => exact bend_rec r p 1
theorem bend_full {ps : List (Rat × Rat)} (hr : Rising ps) : bendQ ps = PL.bendF ps := by
  unfold bendQ PL.bendF
  rw [bend_at, led_eq hr]
def cntQ (ps : List (Rat × Rat)) (x : Rat) : Nat := (ps.filter fun p => decide (p.1 ≤ x)).length
theorem cnt_none {r : List (Rat × Rat)} {x : Rat} (h : ∀ q ∈ r, ¬ q.1 ≤ x) : cntQ r x = 0 := by
  unfold cntQ
  rw [List.length_eq_zero_iff, List.filter_eq_nil_iff]
  intro q hq
  simpa using h q hq
theorem pace_rec : ∀ (r : List (Rat × Rat)) (p : Rat × Rat) (m x : Rat), PL.Ris (p :: r) → (steepM m (p :: r))[cntQ (p :: r) x]? = some (PL.paceR m (p :: r) x)
  | [], p, m, x, _ => by
    rw [steep_one]
    unfold cntQ
    by_cases c : p.1 ≤ x
    · simp [c, PL.paceR, PL.outS]
    · simp [c, PL.paceR]
  | q :: r, p, m, x, hr => by
    have ih := pace_rec r q (PL.slp p q) x hr.2
    rw [steep_two]
    show _ = some (if p.1 ≤ x then PL.paceR (PL.slp p q) (q :: r) x else m)
    by_cases c : p.1 ≤ x
    · have e : cntQ (p :: q :: r) x = cntQ (q :: r) x + 1 := by
        unfold cntQ
        rw [List.filter_cons, if_pos (by simpa using c)]
        rfl
      rw [e, if_pos c, List.getElem?_cons_succ, ih]
    · have e : cntQ (p :: q :: r) x = 0 := cnt_none fun z hz => by
        rcases List.mem_cons.mp hz with rfl | hz
        · exact c
        · have := (hr.all z hz).1
          grind
      rw [e, if_neg c]
      rfl
theorem pace_at {ps : List (Rat × Rat)} (hr : Rising ps) (hn : ps ≠ []) (x : Rat) : (steepQ ps)[cntQ ps x]? = some (PL.paceR 1 ps x) := by
  cases ps with
  | nil => exact absurd rfl hn
  | cons p r => exact pace_rec r p 1 x (ris_of hr)
theorem pace_empty (x : Rat) : (steepQ [])[cntQ [] x]? = some (PL.paceR 1 [] x) := rfl
end K08

set_option maxHeartbeats 4000000
namespace K08
open PySem PySem.Spec PyProof.Rows L2 AT
section
variable {P : Program} {w : World} {K : PySem.W.Frag} {mg : Str → Option Value} {base : Heap}
/-- points that a map may have -/
def FineM (bs : List (Rat × Rat)) : Prop := Rising bs ∧ (∀ p ∈ bs, BitsP 400 p) ∧ bs.length < 1000 ∧ bs ≠ []
def spAsk (K : PySem.W.Frag) (f : List (Rat × Rat) → Rat → Rat) : Sp := fun vs H Q E => ∃ m bs v, vs = [.ref m, v] ∧ IsMap K H m bs ∧ FineM bs ∧ AnyV K H v ∧ ((∃ x, Qv K H v x ∧ Bits 400 x ∧ ∀ r H', Same H H' → IsQ K H' r (f bs x) → Q (.ref r) H') ∨ (wholeV v = false ∧ ¬ isA K H v ∧ Rf K "InvalidAmount" "value" v H E))
theorem sc_TempoMap_call_ : FnScope ["self", "beat"] ["self", "beat"] (defScope s_TempoMap_call_) := ⟨rfl, rfl, rfl, by decide +kernel, rfl, by decide +kernel, by decide +kernel⟩
theorem ok_TempoMap_call_ (T : Tx K mg base) : Ok P w K mg base 10 (d_TempoMap_call_.loc K) ["self", "beat"] (spAsk K PL.ledR) := by
  refine mk_ok (k := 9) T.f_TempoMap_call_ sc_TempoMap_call_ (fun _ _ _ _ _ _ us hl => match us, hl with | [_, _], _ => rfl) (fun vs H Q E h => ?_) (fun cdv A outer s H vs Q E hr h => ?_)
  · obtain ⟨m, bs, v, rfl, _⟩ := h
    rfl
  · obtain ⟨m, bs, v, rfl, ⟨dx, t, ws, h1, h2, h3⟩, ⟨f1, f2, f3, f4⟩, hv, hc⟩ := h
    refine ⟨_, (pss_one (ps_ret (ok_call (ok_led T) (hr.mono (by decide)) rfl T.g_led passL (pa_cons (pe_fld (pv 0) rfl) (pa_cons (ok_call (ok_amount_from T) (hr.mono (by decide)) rfl T.g_amount_from (passE rfl rfl rfl rfl) (pa_cons (pv 1) pa_nil)) (pa_cons pe_int (pa_cons pe_int pa_nil))))))), ?_⟩
    refine ⟨_, rfl, m, _, dx, _, _, rfl, h1, T.cls_TempoMap, T.no_TempoMap_own_points, rfl, _, rfl, v, rfl, hv, ?_⟩
    rcases hc with ⟨x, hx, bx, k⟩ | z
    · refine .inl ⟨x, hx, fun p H1 s1 hq => ?_⟩
      refine ⟨t, ws, false, bs, p, x, false, true, rfl, s1 _ _ h2, h3.up s1, f3, f1, f2, hq, bx, fun r H2 s2 hr2 => ?_⟩
      rw [led_eq f1] at hr2
      exact k r H2 (s1.trans s2) hr2
    · exact .inr z
theorem sc_TempoMap_pace : FnScope ["self", "beat", "place", "point", "many"] ["self", "beat"] (defScope s_TempoMap_pace) := ⟨rfl, rfl, rfl, by decide +kernel, rfl, by decide +kernel, by decide +kernel⟩
theorem ok_TempoMap_pace (T : Tx K mg base) : Ok P w K mg base 10 (d_TempoMap_pace.loc K) ["self", "beat"] (spAsk K (PL.paceR 1)) := by
  refine mk_ok (k := 9) T.f_TempoMap_pace sc_TempoMap_pace (fun _ _ _ _ _ _ us hl => match us, hl with | [_, _], _ => rfl) (fun vs H Q E h => ?_) (fun cdv A outer s H vs Q E hr h => ?_)
  · obtain ⟨m, bs, v, rfl, _⟩ := h
    rfl
  · obtain ⟨m, bs, v, rfl, ⟨dx, t, ws, h1, h2, h3⟩, ⟨f1, f2, f3, f4⟩, hv, hc⟩ := h
    refine ⟨_, (pss_cons (ps_set (i := 2) sc_TempoMap_pace.nd rfl (Or.inr rfl) (ok_call (ok_amount_from T) (hr.mono (by decide)) rfl T.g_amount_from (passE rfl rfl rfl rfl) (pa_cons (pv 1) pa_nil)))
      (pss_cons (ps_set (i := 4) sc_TempoMap_pace.nd rfl (Or.inl rfl) (pe_callB call_len_seq (by rfl) T.b_len (by decide +kernel) (pa_cons (pe_lc (own := [("point", 3)]) (g := (gName 3)) (by rfl) sc_TempoMap_pace.nd (pi_tup (pe_fld (pv 0) rfl)) (blkOk_by (own := [("point", 3)]) (N := ["self", "beat", "place", "point", "many"]) (sc := defScope s_TempoMap_pace) (by decide +kernel)) (fun _ _ _ _ _ => (pg_name (i := 3) sc_TempoMap_pace.nd rfl (Or.inl rfl))) (fun _ _ _ _ _ => (pts_one (pt_cmpR op_le (ok_meth T.cls_Amount T.m_Amount_compare (ok_Amount_compare T) (hr.mono (by decide)) passL (pe_ix (show IxR _ (rIxT K) from ix_tup) (pv 3) pe_int (fun _ _ => rfl)) (pa_cons (pv 2) pa_nil)) pe_int (nomark _)))) (fun _ _ _ _ _ => (pv 3))) pa_nil)))
      (pss_one (ps_ret (pe_ix ix_list (ok_call (ok_paces T) (hr.mono (by decide)) rfl T.g_paces passL (pa_cons (pe_fld (pv 0) rfl) pa_nil)) (pv 4) (fun _ _ => rfl)))))), ?_⟩
    refine ⟨_, rfl, v, rfl, hv, ?_⟩
    rcases hc with ⟨x, hx, bx, k⟩ | z
    · refine .inl ⟨x, hx, fun p H1 s1 hq => ?_⟩
      refine ⟨_, rfl, m, _, dx, _, _, rfl, s1 _ _ h1, T.cls_TempoMap, T.no_TempoMap_own_points, rfl, t, rfl, ⟨_, SqT.of (s1 _ _ h2)⟩, fun D hD => ?_⟩
      have up : ∀ {q : Rat}, Bits 400 q → Bits 3000 q := fun h => h.mono (by decide)
      have hsz : sizeLine = 16777216 := sizeLine_eq
      have hl := h3.length
      refine lc_tup (K := K) (a := t) (xs := ws) (fun i H' => Same H1 H' ∧ ∃ acc, H' D = some (.lst acc) ∧ acc.length = cntQ (bs.take i) x) ⟨AT.Same.up hD, [], upd_same, rfl⟩ (fun i H' _ hP => SqT.of (hP.1 _ _ (s1 _ _ h2))) (fun i z H' hz hP => ?_) (fun H' hP => ?_)
      · obtain ⟨sm, acc, hacc, hcnt⟩ := hP
        obtain ⟨q, eq, pt⟩ := h3.at hz
        obtain ⟨tt, a, b, rfl, htt, hqa, hqb⟩ := pt.up (s1.trans sm)
        obtain ⟨da, hda⟩ := id hqa
        have st : cntQ (bs.take (i + 1)) x = cntQ (bs.take i) x + (if q.1 ≤ x then 1 else 0) := by
          unfold cntQ
          rw [List.take_succ, eq, List.filter_append]
          by_cases c : q.1 ≤ x <;> simp [c]
        have hle : cntQ (bs.take i) x ≤ i := by
          unfold cntQ
          exact Nat.le_trans (List.length_filter_le _ _) (by rw [List.length_take]; omega)
        have hi : i < ws.length := (List.getElem?_eq_some_iff.mp hz).1
        refine ⟨rfl, ?_⟩
        refine ⟨_, rfl, tt, _, 0, _, rfl, rfl, SqT.of htt, rfl, a, da, _, rfl, hda, rfl, _, rfl, a, .ref p, _, rfl, hqa, up (f2 _ (List.mem_of_getElem? eq)).1, .amt (hq.up sm), .inl ⟨x, .obj (hq.up sm), up bx, fun H3 s3 => ?_⟩⟩
        refine ⟨_, _, rfl, rfl, _, rfl, ?_⟩
        rw [cmp_le]
        by_cases c : q.1 ≤ x
        · rw [decide_eq_true c]
          rw [if_pos c] at st
          exact iteT ⟨_, rfl, acc, s3 _ _ hacc, (by omega), AT.Same.new (sm.trans s3) hD, _, upd_same, by rw [List.length_append, hcnt, st]; rfl⟩
        · rw [decide_eq_false c]
          rw [if_neg c] at st
          exact iteF ⟨sm.trans s3, acc, s3 _ _ hacc, by rw [hcnt, st]; rfl⟩
      · obtain ⟨sm, acc, hacc, hcnt⟩ := hP
        rw [hl, List.take_length] at hcnt
        have sH := s1.trans sm
        refine ⟨D, acc, rfl, .inl (SqL.of hacc), ?_⟩
        refine ⟨_, rfl, m, _, dx, _, _, rfl, sH _ _ h1, T.cls_TempoMap, T.no_TempoMap_own_points, rfl, t, ws, false, bs, rfl, sH _ _ h2, h3.up sH, f3, (fun _ => f4), f1, (fun p hp => ⟨(f2 p hp).1.mono (by decide), (f2 p hp).2.mono (by decide)⟩), fun D2 us H5 s5 hD2 hl2 hqs => ?_⟩
        obtain ⟨y, hy, hqy⟩ := hqs.get (pace_at f1 f4 x)
        refine ⟨_, rfl, D2, us, _, _, rfl, rfl, SqL.of hl2, (by rw [hcnt]; exact atI_nat hy), k y H5 (sH.trans s5) hqy⟩
    · exact .inr z
/-! ### == -/
def QEq (K : PySem.W.Frag) (p q : Addr) (H : Hp) (b : Bool) : Prop := ∃ x y, IsQ K H p x ∧ IsQ K H q y ∧ b = decide (x = y)
theorem eqB_pts {X : Cx} (T : Tx X.K X.mg X.base) : EqB X 3 (CTuH (CIns (cA X.K) (QEq X.K))) := by
  refine eqB_tuH (eqB_ins T.eq_Amount (ok_Amount_eq_ T) (E := E0) passL (fun p q H b h => ?_) fun p H b h => ?_) (fun x H b h => ?_)
  · obtain ⟨x, y, h1, h2, rfl⟩ := h
    exact ⟨p, q, x, y, rfl, h1, h2, rfl, rfl⟩
  · obtain ⟨x, y, h1, h2, rfl⟩ := h
    exact decide_eq_true (h1.inj h2)
  · obtain ⟨p, q, _, _, _, _, e1, e2, _, _, x, y, h1, h2, rfl⟩ := h
    rw [e1] at e2
    cases e2
    exact decide_eq_true (h1.inj h2)
theorem pt_cmp {H : Hp} {v v' : V} {p q : Rat × Rat} (h : Pt K H v p) (g : Pt K H v' q) : CTuH (CIns (cA K) (QEq K)) v v' H (decide (p = q)) := by
  obtain ⟨t, x, y, rfl, ht, hx, hy⟩ := h
  obtain ⟨t', x', y', rfl, ht', hx', hy'⟩ := g
  obtain ⟨d1, e1⟩ := id hx
  obtain ⟨d2, e2⟩ := id hy
  obtain ⟨d3, e3⟩ := id hx'
  obtain ⟨d4, e4⟩ := id hy'
  refine ⟨t, t', _, _, fun i => if i = 0 then decide (p.1 = q.1) else decide (p.2 = q.2), rfl, rfl, ht, ht', fun i a b h1 h2 => ?_, ?_⟩
  · match i, h1, h2 with
    | 0, h1, h2 =>
      simp at h1 h2
      subst h1 h2
      exact ⟨x, x', _, _, _, _, rfl, rfl, e1, e3, _, _, hx, hx', rfl⟩
    | 1, h1, h2 =>
      simp at h1 h2
      subst h1 h2
      exact ⟨y, y', _, _, _, _, rfl, rfl, e2, e4, _, _, hy, hy', rfl⟩
    | i + 2, h1, h2 => simp at h1
  · obtain ⟨p1, p2⟩ := p
    obtain ⟨q1, q2⟩ := q
    show _ = ((decide (p1 = q1) && (decide (p2 = q2) && true)) && true)
    by_cases c1 : p1 = q1 <;> by_cases c2 : p2 = q2 <;> simp [c1, c2]
theorem pts_cmp {H : Hp} {t t' : Addr} {ws ws' : List V} {ps qs : List (Rat × Rat)} (ht : H t = some (.tup ws)) (ht' : H t' = some (.tup ws')) (h : Pts K H ws ps) (g : Pts K H ws' qs) : CTuH (CTuH (CIns (cA K) (QEq K))) (.ref t) (.ref t') H (decide (ps = qs)) := by
  have l1 := h.length
  have l2 := g.length
  refine ⟨t, t', ws, ws', fun i => decide (ps[i]? = qs[i]?), rfl, rfl, ht, ht', fun i a b h1 h2 => ?_, ?_⟩
  · obtain ⟨p, e1, p1⟩ := h.at h1
    obtain ⟨q, e2, p2⟩ := g.at h2
    have e : decide (ps[i]? = qs[i]?) = decide (p = q) := by rw [e1, e2]; simp
    show CTuH (CIns (cA K) (QEq K)) a b H (decide (ps[i]? = qs[i]?))
    rw [e]
    exact pt_cmp p1 p2
  · rw [l1, l2]
    by_cases c : ps = qs
    · subst c
      simp
    · rw [decide_eq_false c]
      symm
      rw [Bool.and_eq_false_iff]
      by_cases cl : ps.length = qs.length
      · left
        rw [List.all_eq_false]
        apply Classical.byContradiction
        intro hn
        apply c
        refine List.ext_getElem? fun i => ?_
        by_cases hi : i < ps.length
        · apply Classical.byContradiction
          intro hne
          exact hn ⟨i, by rw [List.mem_range]; omega, by simpa using hne⟩
        · rw [List.getElem?_eq_none (by omega), List.getElem?_eq_none (by omega)]
      · right
        simpa using cl
def spEqM (K : PySem.W.Frag) : Sp := fun vs H Q _ => ∃ m v bs, vs = [.ref m, v] ∧ IsMap K H m bs ∧ ((∃ m' bs', v = .ref m' ∧ IsMap K H m' bs' ∧ Q (.bl (decide (bs = bs'))) H) ∨ (∃ a xs, v = .ref a ∧ H a = some (.lst xs) ∧ Q (.bl false) H))
theorem sc_TempoMap_eq_ : FnScope ["self", "other"] ["self", "other"] (defScope s_TempoMap_eq_) := ⟨rfl, rfl, rfl, by decide +kernel, rfl, by decide +kernel, by decide +kernel⟩
theorem ok_TempoMap_eq_ (T : Tx K mg base) : Ok P w K mg base 6 (d_TempoMap_eq_.loc K) ["self", "other"] (spEqM K) := by
  refine mk_ok (k := 5) T.f_TempoMap_eq_ sc_TempoMap_eq_ (fun _ _ _ _ _ _ us hl => match us, hl with | [_, _], _ => rfl) (fun vs H Q E h => ?_) (fun cdv A outer s H vs Q E hr h => ?_)
  · obtain ⟨m, v, bs, rfl, _⟩ := h
    rfl
  · obtain ⟨m, v, bs, rfl, ⟨dx, t, ws, h1, h2, h3⟩, hc⟩ := h
    refine ⟨_, (pss_one (ps_ret (pe_and (pe_callB call_isi (by rfl) T.b_isinstance (by decide +kernel) (pa_cons (pv 1) (pa_cons (pe_gr T.g_TempoMap) pa_nil))) (pe_one (pe_cmpR (op_eqB (rcB_tuH (eqB_pts T)) (hr.mono (by decide))) (pe_fld (pv 0) rfl) (pe_fld (pv 1) rfl) (nomark _)))))), ?_⟩
    rcases hc with ⟨m', bs', rfl, ⟨dx', t', ws', g1, g2, g3⟩, k⟩ | ⟨a, xs, rfl, ha, k⟩
    · refine ⟨_, rfl, _, _, _, _, _, rfl, .own _, T.ins_TempoMap g1, T.k_TempoMap_TempoMap, _, rfl, iteT ?_⟩
      exact ⟨_, rfl, m, _, dx, _, _, rfl, h1, T.cls_TempoMap, T.no_TempoMap_own_points, rfl, _, rfl, m', _, dx', _, _, rfl, g1, T.cls_TempoMap, T.no_TempoMap_own_points, rfl, _, pts_cmp h2 g2 h3 g3, k⟩
    · exact ⟨_, rfl, _, _, _, _, _, rfl, .own _, .base (.lst ha), T.k_list_TempoMap, _, rfl, iteF k⟩
end
end K08

set_option maxHeartbeats 4000000
namespace K08
open PySem PySem.Spec PyProof.Rows L2 AT
section
variable {P : Program} {w : World} {K : PySem.W.Frag} {mg : Str → Option Value} {base : Heap}
/-! ### maps made without points -/
abbrev dflP (K : PySem.W.Frag) : Addr := dflA (fun K => He.ma K (He.ga K "TempoMap") "__init__") 0 K
theorem ty_dfl (T : Tx K mg base) (H : Hp) : TyX K H (.ref (dflP K)) (.type "tuple") := by
  have h := T.dt_TempoMap_init_ (fun _ => none)
  rcases h with (h | ⟨o, h⟩) | ⟨o, its, n, h, hc, _⟩
  · cases h
  · cases h
  · exact .kTuple h hc
def spIsList0 (K : PySem.W.Frag) : Sp := fun vs H Q _ => vs = [.ref (dflP K)] ∧ ∀ H', Same H H' → Q (.bl true) H'
theorem ok0_is_list (T : Tx K mg base) : Ok P w K mg base 1 (d_is_list.loc K) ["value"] (spIsList0 K) := by
  refine mk_ok (k := 0) T.f_is_list sc_is_list (fun _ _ _ _ _ _ us hl => match us, hl with | [_], _ => rfl) (fun vs H Q E h => ?_) (fun cdv A outer s H vs Q E hr h => ?_)
  · rw [h.1]
    rfl
  · obtain ⟨rfl, k⟩ := h
    refine ⟨_, (pss_one (ps_ret (pe_callB call_isiT (by rfl) T.b_isinstance (by decide +kernel) (pa_cons (pv 0) (pa_cons (pe_tup (pa_cons (pe_bltn (v := .ty "list") rfl T.b_list (by decide +kernel) rfl) (pa_cons (pe_bltn (v := .ty "tuple") rfl T.b_tuple (by decide +kernel) rfl) pa_nil))) pa_nil))))), ?_⟩
    refine ⟨_, rfl, (by show 2 ≤ sizeLine; decide), fun p hp => ?_⟩
    have s1 : Same H (upd H p (.tup [.ty "list", .ty "tuple"])) := AT.Same.up hp
    refine ⟨_, p, _, _, _, _, rfl, upd_same, .cons (.ty _) (.cons (.ty _) .nil), ty_dfl T _, ?_, k _ s1⟩
    show PySem.W.kitAny K (.type "tuple") [.type "list", .type "tuple"] = some true
    unfold PySem.W.kitAny
    rw [kit_ty (K := K) (r := false) (by decide +kernel)]
    show PySem.W.kitAny K (.type "tuple") [.type "tuple"] = some true
    unfold PySem.W.kitAny
    rw [kit_ty (K := K) (r := true) (by decide +kernel)]
def spChk0 (K : PySem.W.Frag) : Sp := fun vs H Q _ => vs = [.ref (dflP K)] ∧ ∀ D H', Same H H' → H D = none → H' D = some (.lst []) → Q (.ref D) H'
theorem ok0_checked_points (T : Tx K mg base) : Ok P w K mg base 7 (d_checked_points.loc K) ["points"] (spChk0 K) := by
  refine mk_ok (k := 6) T.f_checked_points sc_checked_points (fun _ _ _ _ _ _ us hl => match us, hl with | [_], _ => rfl) (fun vs H Q E h => ?_) (fun cdv A outer s H vs Q E hr h => ?_)
  · rw [h.1]
    rfl
  · obtain ⟨rfl, k⟩ := h
    refine ⟨_, (pss_cons (ps_if (pt_not (pt_val (ok_call (ok0_is_list T) (hr.mono (by decide)) rfl T.g_is_list passL (pa_cons (pv 0) pa_nil)))) (pss_one (ps_rs rfl (mx_InvalidPart T (hr.mono (by decide))) (takes_of rfl rfl rfl rfl) rfl (pv 0))) pss_nil)
      (pss_cons (ps_set (i := 1) sc_checked_points.nd rfl (Or.inl rfl) (pe_lst pa_nil))
      (pss_cons (ps_for (passes_of rfl) rfl (pi_enumA (by rfl) T.b_enumerate (pa_cons (pv 0) pa_nil)) (pg_tup rfl (pgs_cons (pg_name (i := 2) sc_checked_points.nd rfl (Or.inl rfl)) (pgs_cons (pg_name (i := 3) sc_checked_points.nd rfl (Or.inl rfl)) pgs_nil))) (pss_cons (ps_if (PW.pt (pw_or (pt_not (pt_val (ok_call (ok_is_row T) (hr.mono (by decide)) rfl T.g_is_row passL (pa_cons (pv 3) (pa_cons pe_int pa_nil))))) (pw_or (pt_not (pt_val (ok_call (ok_is_amount T) (hr.mono (by decide)) rfl T.g_is_amount passL (pa_cons (pe_ix ix_sq (pv 3) pe_int (fun _ _ => rfl)) pa_nil)))) (pw_or1 (pt_not (pt_val (ok_call (ok_is_amount T) (hr.mono (by decide)) rfl T.g_is_amount passL (pa_cons (pe_ix ix_sq (pv 3) pe_int (fun _ _ => rfl)) pa_nil)))))))) (pss_one (ps_rs rfl (mx_InvalidPoint T (hr.mono (by decide))) (takes_of rfl rfl rfl rfl) rfl (pv 3))) pss_nil)
      (pss_cons (ps_par (by rfl) sc_checked_points.nd (i := 4) (j := 5) rfl rfl (by decide) rfl rfl (pa_cons (ok_call (ok_amount_from T) (hr.mono (by decide)) rfl T.g_amount_from (passE rfl rfl rfl rfl) (pa_cons (pe_ix ix_sq (pv 3) pe_int (fun _ _ => rfl)) pa_nil)) (pa_cons (ok_call (ok_amount_from T) (hr.mono (by decide)) rfl T.g_amount_from (passE rfl rfl rfl rfl) (pa_cons (pe_ix ix_sq (pv 3) pe_int (fun _ _ => rfl)) pa_nil)) pa_nil)) (by rfl))
      (Evl.pss_cut (ps_if (PW.pt (pw_and (pt_truth (pv 1) (by intro _; rfl)) (pw_and1 (pt_not (PW.pt (pw_and (pt_cmpR op_lt (ok_meth T.cls_Amount T.m_Amount_compare (ok_Amount_compare T) (hr.mono (by decide)) (passE rfl rfl rfl rfl) (pe_ix ix_tup (pe_ix ix_list (pv 1) (pe_un un_neg pe_int) (fun _ _ => rfl)) pe_int (fun _ _ => rfl)) (pa_cons (pv 4) pa_nil)) pe_int (nomark _)) (pw_and1 (pt_cmpR op_lt (ok_meth T.cls_Amount T.m_Amount_compare (ok_Amount_compare T) (hr.mono (by decide)) (passE rfl rfl rfl rfl) (pe_ix ix_tup (pe_ix ix_list (pv 1) (pe_un un_neg pe_int) (fun _ _ => rfl)) pe_int (fun _ _ => rfl)) (pa_cons (pv 5) pa_nil)) pe_int (nomark _))))))))) (pss_one (ps_rs rfl (mx_Falling T (hr.mono (by decide))) (takes_of rfl rfl rfl rfl) rfl (pv 2))) pss_nil)
      (pss_one (ps_expr (pe_bm PySem.F.plainAttrs_list PySem.F.slot_list_append PySem.F.type_list_append mt_append (pv 1) (pa_cons (pe_tup (pa_cons (pv 4) (pa_cons (pv 5) pa_nil))) pa_nil))))))))
      (pss_one (ps_ret (pv 1)))))), ?_⟩
    refine ⟨_, rfl, rfl, fun H1 s1 => ⟨_, rfl, iteF ?_⟩⟩
    refine ⟨Nat.zero_le _, fun D hD => ?_⟩
    refine ⟨_, rfl, dflP K, [], rfl, .inr (T.dt_TempoMap_init_ _), fun J hJ => ?_⟩
    obtain ⟨G, wk, hG0⟩ := en_walk hJ
    refine for_it wk (fun i σ' H' => ∃ (o2 o3 o4 o5 : Option V), σ' = ([some (.ref (dflP K)), some (.ref D), o2, o3, o4, o5] : L2.St) ∧ H' = upd H1 D (.lst [])) ⟨_, _, _, _, rfl, rfl⟩ (fun i σ' H' hi hP => ?_) (fun i y σ' H' H2 hi hP hY => absurd hi (Nat.not_lt_zero _)) (fun σ' H' hP => ?_)
    · obtain ⟨_, _, _, _, _, rfl⟩ := hP
      exact hG0 _ rfl
    · obtain ⟨_, _, _, _, rfl, rfl⟩ := hP
      exact ⟨_, rfl, k D _ (s1.trans (AT.Same.up hD)) (none_of s1 hD) upd_same⟩
def spMap0 (K : PySem.W.Frag) : Sp := fun vs H Q _ => ∃ m dx, vs = [.ref m, .ref (dflP K)] ∧ H m = some (.ins (cM K) dx []) ∧ ∀ H' : Hp, (∀ b o, b ≠ m → H b = some o → H' b = some o) → IsMap K H' m (bendQ []) → Q .non H'
theorem okd0_TempoMap_init_ (T : Tx K mg base) : OkD P w K mg base 12 (He.ma K (He.ga K "TempoMap") "__init__") ["self", "points"] [.ref (dflP K)] (spMap0 K) := by
  refine (mk_okD1 (k := 11) (n := 1) T.f_TempoMap_init_ sc_TempoMap_init_ rfl (fun _ _ _ _ _ _ _ us u hl => match us, hl with | [_], _ => ⟨_, rfl, rfl⟩) (fun _ _ _ _ _ _ _ us u hl => match us, hl with | [_, _], _ => ⟨_, rfl, rfl⟩) (fun vs H Q E h => ?_) (fun cdv A outer s H vs Q E hr h => ?_)).2
  · obtain ⟨m, dx, rfl, _⟩ := h
    rfl
  · obtain ⟨m, dx, rfl, hm, k⟩ := h
    refine ⟨_, (pss_one (ps_fld (pv 0) (pe_callTy call_tuple_of (by rfl) T.b_tuple (by decide +kernel) (pa_cons (ok_call (ok_bends T) (hr.mono (by decide)) rfl T.g_bends passL (pa_cons (ok_call (ok0_checked_points T) (hr.mono (by decide)) rfl T.g_checked_points (passE rfl rfl rfl rfl) (pa_cons (pv 1) pa_nil)) pa_nil)) pa_nil)) rfl)), ?_⟩
    refine ⟨_, rfl, rfl, fun D H1 s1 hD hl => ?_⟩
    refine ⟨D, [], true, [], rfl, hl, .nil, (by decide), (fun z => nomatch z), trivial, (fun _ h => nomatch h), fun D2 us2 H2 s2 hD2 hl2 hp2 => ?_⟩
    refine ⟨D2, us2, rfl, .inl ⟨SqL.of hl2, fun t ht => ?_⟩⟩
    have s3 := AT.Same.up (o := .tup us2) ht
    have s03 := (s1.trans s2).trans s3
    refine ⟨_, rfl, m, _, dx, _, rfl, s03 _ _ hm, T.cls_TempoMap, T.no_TempoMap_own_points, (by decide), ?_⟩
    refine k _ (fun b o hb e => by rw [upd_ne hb]; exact s03 _ _ e) ⟨dx, t, us2, upd_same, ?_, ?_⟩
    · rw [upd_ne (by rintro rfl; rw [(s1.trans s2) _ _ hm] at ht; cases ht)]
      exact upd_same
    · exact (hp2.up s3).setI (s03 _ _ hm)
end
end K08

set_option maxHeartbeats 4000000
namespace K08
open PySem PySem.Spec PyProof.Rows L2 AT
/-! ### the law's draws -/
def BoxAt (H : Hp) (p : Addr) (n : Nat) : Prop := ∃ a b c : Int, H p = some (.lst [.int a, .int b, .int c]) ∧ 0 ≤ a ∧ 0 ≤ b ∧ b < 2147483629 ∧ 0 ≤ c ∧ c ≤ n
/-- all but the object at p is as it was -/
def SameX (p : Addr) (H H' : Hp) : Prop := ∀ b o, b ≠ p → H b = some o → H' b = some o
theorem SameX.refl (p : Addr) (H : Hp) : SameX p H H := fun _ _ _ e => e
theorem SameX.trans {p : Addr} {H H1 H2 : Hp} (a : SameX p H H1) (b : SameX p H1 H2) : SameX p H H2 := fun x o n e => b x o n (a x o n e)
theorem sameX_of {p : Addr} {H H' : Hp} (s : Same H H') : SameX p H H' := fun b o _ e => s b o e
theorem BoxAt.up {H H' : Hp} {p : Addr} {n : Nat} (h : BoxAt H p n) (s : Same H H') : BoxAt H' p n := by
  obtain ⟨a, b, c, e, r⟩ := h
  exact ⟨a, b, c, s _ _ e, r⟩
theorem BoxAt.mono {H : Hp} {p : Addr} {n m : Nat} (h : BoxAt H p n) (l : n ≤ m) : BoxAt H p m := by
  obtain ⟨a, b, c, e, h1, h2, h3, h4, h5⟩ := h
  exact ⟨a, b, c, e, h1, h2, h3, h4, by omega⟩
section
variable {P : Program} {w : World} {K : PySem.W.Frag} {mg : Str → Option Value} {base : Heap}
def spCell (K : PySem.W.Frag) : Sp := fun vs H Q _ => ∃ (a : Addr) (ns : List Int) (k : Nat), vs = [.ref a, .int k] ∧ SqL K H a (ns.map V.int) ∧ k < 100 ∧ ∀ c : Int, Q (.int c) H
theorem sc_w_cell : FnScope ["_law_script", "_law_index"] ["_law_script", "_law_index"] (defScope s_w_cell) := ⟨rfl, rfl, rfl, by decide +kernel, rfl, by decide +kernel, by decide +kernel⟩
theorem ok_w_cell (T : Tx K mg base) : Ok P w K mg base 1 (d_w_cell.loc K) ["_law_script", "_law_index"] (spCell K) := by
  refine mk_ok (k := 0) T.f_w_cell sc_w_cell (fun _ _ _ _ _ _ us hl => match us, hl with | [_, _], _ => rfl) (fun vs H Q E h => ?_) (fun cdv A outer s H vs Q E hr h => ?_)
  · obtain ⟨a, ns, k, rfl, _⟩ := h
    rfl
  · obtain ⟨a, ns, k, rfl, hS, hk, q⟩ := h
    refine ⟨_, (pss_cons (ps_if (pt_cmpR op_lt (pv 1) (pe_callB call_len_seq (by rfl) T.b_len (by decide +kernel) (pa_cons (pv 0) pa_nil)) (nomark _)) (pss_one (ps_ret (pe_ix ix_list (pv 0) (pv 1) (fun _ _ => rfl)))) pss_nil)
      (pss_one (ps_ret (pe_op op_add (pe_op op_mulW pe_int (pv 1)) pe_int)))), ?_⟩
    refine ⟨_, rfl, _, rfl, a, _, rfl, .inl hS, _, _, rfl, rfl, _, rfl, ?_⟩
    refine ite2 (fun h1 => ?_) (fun h1 => ?_)
    · have h1' : (k : Int) < ((ns.map V.int).length : Int) := of_decide_eq_true h1
      rw [List.length_map] at h1'
      have hx : (ns.map V.int)[k]? = some (.int (ns.getD k 0)) := by
        rw [List.getElem?_map, List.getElem?_eq_getElem (by omega), List.getD_eq_getElem?_getD, List.getElem?_eq_getElem (by omega)]
        rfl
      exact ⟨_, rfl, _, rfl, a, _, _, _, rfl, rfl, hS, atI_nat hx, q _⟩
    · exact ⟨_, rfl, _, _, rfl, rfl, wide_mul (a := 64) (b := 64) (by decide) (by rw [Int.natAbs_natCast]; exact Nat.lt_trans hk (by decide)) (by decide) (by decide) (by decide), _, _, rfl, rfl, q _⟩
def spBox : Sp := fun vs H Q _ => ∃ c : Int, vs = [.int c] ∧ ∀ p H', Same H H' → H p = none → BoxAt H' p 0 → Q (.ref p) H'
theorem sc_w_bag : FnScope ["_law_cell_here"] ["_law_cell_here"] (defScope s_w_bag) := ⟨rfl, rfl, rfl, by decide +kernel, rfl, by decide +kernel, by decide +kernel⟩
theorem ok_w_bag (T : Tx K mg base) : Ok P w K mg base 1 (d_w_bag.loc K) ["_law_cell_here"] spBox := by
  refine mk_ok (k := 0) T.f_w_bag sc_w_bag (fun _ _ _ _ _ _ us hl => match us, hl with | [_], _ => rfl) (fun vs H Q E h => ?_) (fun cdv A outer s H vs Q E hr h => ?_)
  · obtain ⟨c, rfl, _⟩ := h
    rfl
  · obtain ⟨c, rfl, k⟩ := h
    refine ⟨_, (pss_one (ps_ret (pe_lst (pa_cons (pe_callB (call_max2 rfl) (by rfl) T.b_max (by decide +kernel) (pa_cons pe_int (pa_cons (pe_op op_sub (pv 0) (pe_op op_pow pe_int pe_int)) pa_nil))) (pa_cons (pe_op op_mod (pv 0) pe_int) (pa_cons pe_int pa_nil)))))), ?_⟩
    refine ⟨_, rfl, _, _, rfl, rfl, ⟨by decide, by decide, by decide⟩, _, _, rfl, rfl, _, _, rfl, _, rfl, _, _, rfl, rfl, (show (0 : Int) < 2147483629 by decide), (by show 3 ≤ sizeLine; decide), fun p hp => ?_⟩
    exact k p _ (AT.Same.up hp) hp ⟨_, _, _, upd_same, by split <;> omega, Int.emod_nonneg _ (by decide), Int.emod_lt_of_pos _ (by decide), by decide, by decide⟩
def spTake : Sp := fun vs H Q _ => ∃ (p : Addr) (many : Int) (n : Nat), vs = [.ref p, .int many] ∧ BoxAt H p n ∧ n ≤ 100000 ∧ 0 < many ∧ many.natAbs < 2 ^ 1000 ∧ ∀ (r : Int) H', 0 ≤ r → r < many → SameX p H H' → BoxAt H' p (n + 1) → Q (.int r) H'
theorem sc_w_take : FnScope ["_law_bag_here", "_law_many", "_law_digit", "_law_mixed"] ["_law_bag_here", "_law_many"] (defScope s_w_take) := ⟨rfl, rfl, rfl, by decide +kernel, rfl, by decide +kernel, by decide +kernel⟩
theorem ok_w_take (T : Tx K mg base) : Ok P w K mg base 1 (d_w_take.loc K) ["_law_bag_here", "_law_many"] spTake := by
  refine mk_ok (k := 0) T.f_w_take sc_w_take (fun _ _ _ _ _ _ us hl => match us, hl with | [_, _], _ => rfl) (fun vs H Q E h => ?_) (fun cdv A outer s H vs Q E hr h => ?_)
  · obtain ⟨p, many, n, rfl, _⟩ := h
    rfl
  · obtain ⟨p, many, n, rfl, ⟨a, b, c, hp, ha, hb, hb2, hc, hcn⟩, hn, hm, hmb, k⟩ := h
    refine ⟨_, (pss_cons (ps_if (pt_cmpR op_gt (pe_ix ix_list (pv 0) pe_int (fun _ _ => rfl)) pe_int (nomark _)) (pss_cons (ps_set (i := 2) sc_w_take.nd rfl (Or.inl rfl) (pe_op op_mod (pe_ix ix_list (pv 0) pe_int (fun _ _ => rfl)) (pv 1)))
      (pss_cons (ps_asg (pe_op op_fdivW (pe_ix ix_list (pv 0) pe_int (fun _ _ => rfl)) (pv 1)) (pg_sub (pv 0) pe_int set_list))
      (pss_one (ps_ret (pv 2))))) pss_nil)
      (pss_cons (ps_asg (pe_op op_add (pe_ix ix_list (pv 0) pe_int (fun _ _ => rfl)) pe_int) (pg_sub (pv 0) pe_int set_list))
      (pss_cons (ps_set (i := 3) sc_w_take.nd rfl (Or.inl rfl) (pe_op op_mod (pe_op op_pow (pe_op op_add (pe_op op_add (pe_ix ix_list (pv 0) pe_int (fun _ _ => rfl)) (pe_op op_mulW pe_int (pe_ix ix_list (pv 0) pe_int (fun _ _ => rfl)))) pe_int) pe_int) pe_int))
      (pss_cons (ps_set (i := 3) sc_w_take.nd rfl (Or.inl rfl) (pe_op op_mod (pe_op op_pow (pe_op op_add (pv 3) (pe_op op_mulW pe_int (pe_ix ix_list (pv 0) pe_int (fun _ _ => rfl)))) pe_int) pe_int))
      (pss_one (ps_ret (pe_op op_mod (pe_op op_fdivW (pv 3) pe_int) (pv 1)))))))), ?_⟩
    have sx : ∀ o, SameX p H (upd H p o) := fun o x u hx e => by rw [upd_ne hx]; exact e
    refine ⟨_, rfl, p, _, 0, _, rfl, rfl, SqL.of hp, rfl, _, _, rfl, rfl, _, rfl, ?_⟩
    refine ite2 (fun h1 => ?_) (fun h1 => ?_)
    · have h1' : 0 < a := of_decide_eq_true h1
      refine ⟨_, rfl, p, _, 0, _, rfl, rfl, SqL.of hp, rfl, _, rfl, _, _, rfl, rfl, hm, ?_⟩
      refine ⟨_, rfl, p, _, 0, _, rfl, rfl, SqL.of hp, rfl, _, rfl, _, _, rfl, rfl, wide_div hm hmb (by decide) (by decide), _, rfl, p, _, 0, 0, rfl, rfl, hp, rfl, ?_⟩
      refine ⟨_, rfl, k _ _ (Int.emod_nonneg _ (by omega)) (Int.emod_lt_of_pos _ hm) (sx _) ⟨a / many, b, c, upd_same, Int.ediv_nonneg ha (by omega), hb, hb2, hc, by omega⟩⟩
    · refine ⟨_, rfl, p, _, 2, _, rfl, rfl, SqL.of hp, rfl, _, _, rfl, rfl, _, rfl, p, _, 2, 2, rfl, rfl, hp, rfl, ?_⟩
      have hp2 : upd H p (.lst [.int a, .int b, .int (c + 1)]) p = some (.lst [.int a, .int b, .int (c + 1)]) := upd_same
      refine ⟨_, rfl, p, _, 1, _, rfl, rfl, SqL.of hp2, rfl, _, rfl, p, _, 2, _, rfl, rfl, SqL.of hp2, rfl, _, _, rfl, rfl, wide_mul (a := 64) (b := 64) (by decide) (by omega) (by decide) (by decide) (by decide), _, _, rfl, rfl, _, _, rfl, rfl, _, _, rfl, rfl, ⟨by decide, by decide, by omega⟩, _, _, rfl, rfl, (show (0 : Int) < 2147483647 by decide), ?_⟩
      generalize hx : ((b + 314606891 * (c + 1) + 877) ^ (5 : Int).toNat) % 2147483647 = x
      have hx1 : 0 ≤ x := hx ▸ Int.emod_nonneg _ (by decide)
      have hx2 : x < 2147483647 := hx ▸ Int.emod_lt_of_pos _ (by decide)
      refine ⟨_, rfl, _, rfl, p, _, 2, _, rfl, rfl, SqL.of hp2, rfl, _, _, rfl, rfl, wide_mul (a := 64) (b := 64) (by decide) (by omega) (by decide) (by decide) (by decide), _, _, rfl, rfl, _, _, rfl, rfl, ⟨by decide, by decide, by omega⟩, _, _, rfl, rfl, (show (0 : Int) < 2147483587 by decide), ?_⟩
      generalize ((x + 103217 * (c + 1)) ^ (3 : Int).toNat) % 2147483587 = y
      refine ⟨_, rfl, _, _, rfl, rfl, wide_div (b := 10) (by decide) (by decide) (by decide) (by decide), _, rfl, _, _, rfl, rfl, hm, ?_⟩
      exact k _ _ (Int.emod_nonneg _ (by omega)) (Int.emod_lt_of_pos _ hm) (sx _) ⟨a, b, c + 1, upd_same, ha, hb, hb2, by omega, by omega⟩
end
end K08

set_option maxHeartbeats 4000000
namespace K08
open PySem PySem.Spec PyProof.Rows L2 AT
/-! ### the law's own fractions: pairs in lowest terms -/
def pairQ (q : Rat) : HO := .tup [.int q.num, .int q.den]
theorem sg_num {t b : Int} (s : Int) (hs : s = if b < 0 then -1 else 1) (h : b ≠ 0) : (s * t).fdiv (Int.gcd t b : Nat) = (Rat.divInt t b).num := by
  rw [Rat.num_divInt, Int.gcd_comm b t, Int.fdiv_eq_ediv_of_nonneg _ (by omega)]
  have e : b.sign = s := by
    rw [hs]
    split
    · rename_i z; exact Int.sign_eq_neg_one_of_neg z
    · exact Int.sign_eq_one_of_pos (by omega)
  rw [e]
theorem sg_den {t b : Int} (s : Int) (hs : s = if b < 0 then -1 else 1) (h : b ≠ 0) : (s * b).fdiv (Int.gcd t b : Nat) = ((Rat.divInt t b).den : Int) := by
  rw [Rat.den_divInt, if_neg h, Int.gcd_comm b t, Int.fdiv_eq_ediv_of_nonneg _ (by omega)]
  have e : s * b = (b.natAbs : Int) := by
    rw [hs]
    split <;> omega
  rw [e]
  simp
section
variable {P : Program} {w : World} {K : PySem.W.Frag} {mg : Str → Option Value} {base : Heap}
def spFrac : Sp := fun vs H Q _ => ∃ t b : Int, vs = [.int t, .int b] ∧ b ≠ 0 ∧ t.natAbs < 2 ^ 1000 ∧ b.natAbs < 2 ^ 1000 ∧ ∀ q H', Same H H' → H q = none → H' q = some (pairQ (Rat.divInt t b)) → Q (.ref q) H'
theorem sc_w_frac : FnScope ["_law_top", "_law_bottom", "_law_one", "_law_other", "_law_sign"] ["_law_top", "_law_bottom"] (defScope s_w_frac) := ⟨rfl, rfl, rfl, by decide +kernel, rfl, by decide +kernel, by decide +kernel⟩
theorem ok_w_frac (T : Tx K mg base) : Ok P w K mg base 1 (d_w_frac.loc K) ["_law_top", "_law_bottom"] spFrac := by
  refine mk_ok (k := 0) T.f_w_frac sc_w_frac (fun _ _ _ _ _ _ us hl => match us, hl with | [_, _], _ => rfl) (fun vs H Q E h => ?_) (fun cdv A outer s H vs Q E hr h => ?_)
  · obtain ⟨t, b, rfl, _⟩ := h
    rfl
  · obtain ⟨t, b, rfl, hb0, htd, hbd, k⟩ := h
    refine ⟨_, (pss_cons (ps_par (by rfl) sc_w_frac.nd (i := 2) (j := 3) rfl rfl (by decide) rfl rfl (pa_cons (pe_callB call_abs (by rfl) T.b_abs (by decide +kernel) (pa_cons (pv 0) pa_nil)) (pa_cons (pe_callB call_abs (by rfl) T.b_abs (by decide +kernel) (pa_cons (pv 1) pa_nil)) pa_nil)) (by rfl))
      (pss_cons (ps_while (passes_of rfl) (pt_cmpR op_gt (pv 3) pe_int (nomark _)) (pss_one (ps_par (by rfl) sc_w_frac.nd (i := 2) (j := 3) rfl rfl (by decide) rfl rfl (pa_cons (pv 3) (pa_cons (pe_op op_mod (pv 2) (pv 3)) pa_nil)) (by rfl))))
      (pss_cons (ps_set (i := 4) sc_w_frac.nd rfl (Or.inl rfl) (pe_ifExp (pt_cmpR op_lt (pv 1) pe_int (nomark _)) (pe_un un_neg pe_int) pe_int))
      (pss_one (ps_ret (pe_tup (pa_cons (pe_op op_fdivZ (pe_op op_mulW (pv 4) (pv 0)) (pv 2)) (pa_cons (pe_op op_fdivZ (pe_op op_mulW (pv 4) (pv 1)) (pv 2)) pa_nil)))))))), ?_⟩
    refine ⟨_, rfl, t, rfl, _, rfl, b, rfl, _, _, rfl, ?_⟩
    refine ⟨fun m σ H' => ∃ a' b' : Int, σ = ([some (.int t), some (.int b), some (.int a'), some (.int b'), none] : L2.St) ∧ H' = H ∧ 0 ≤ a' ∧ 0 ≤ b' ∧ Int.gcd a' b' = Int.gcd t b ∧ m = b'.toNat, ⟨_, _, _, rfl, rfl, (by split <;> omega), (by split <;> omega), abs_gcd t b, rfl⟩, ?_⟩
    rintro m σ H' ⟨a', b', rfl, rfl, ha', hb', hg, rfl⟩
    refine ⟨_, rfl, _, _, rfl, rfl, _, rfl, ?_⟩
    refine ite2 (fun h1 => ?_) (fun h1 => ?_)
    · have h1' : 0 < b' := of_decide_eq_true h1
      refine ⟨fun σ2 H2 => ∃ a2 b2 : Int, σ2 = ([some (.int t), some (.int b), some (.int a2), some (.int b2), none] : L2.St) ∧ H2 = H' ∧ 0 ≤ a2 ∧ 0 ≤ b2 ∧ Int.gcd a2 b2 = Int.gcd t b ∧ b2 < b', ?_, ?_⟩
      · rintro σ2 H2 ⟨a2, b2, rfl, rfl, h2, h3, h4, h5⟩
        exact ⟨b2.toNat, by omega, a2, b2, rfl, rfl, h2, h3, h4, rfl⟩
      · refine ⟨_, rfl, _, rfl, _, rfl, _, _, rfl, rfl, h1', _, _, rfl, ?_⟩
        exact ⟨b', a' % b', rfl, rfl, hb', Int.emod_nonneg _ (by omega), by rw [gcd_turn ha' h1', hg], Int.emod_lt_of_pos _ h1'⟩
    · have h0 : b' = 0 := by
        have := of_decide_eq_false (by simpa using h1 : decide (0 < b') = false)
        omega
      subst h0
      have e : a' = (Int.gcd t b : Nat) := by rw [← hg, Int.gcd_zero_right]; omega
      subst e
      have hgp := gcd_pos (t := t) hb0
      have hle := gcd_le (t := t) hb0
      have hlog : (Int.gcd t b).log2 < 9000 := log_lt (by decide) (Nat.lt_of_le_of_lt hle (Nat.lt_trans hbd (Nat.pow_lt_pow_right (by decide) (by decide))))
      have cd : ∀ i : Int, CDivZ i (Int.gcd t b : Nat) := fun i => ⟨by omega, by rw [Int.natAbs_natCast]; exact hlog⟩
      have one : ∀ s : Int, s = 1 ∨ s = -1 → s.natAbs < 2 ^ 10 := by rintro s (rfl | rfl) <;> decide
      have cm : ∀ s i : Int, (s = 1 ∨ s = -1) → i.natAbs < 2 ^ 1000 → CMulW s i := fun s i hs hi => wide_mul (one s hs) hi (by decide) (by decide) (by decide)
      have fin : ∀ s : Int, (s = if b < 0 then -1 else 1) → tRet (tTup (tCons (tOp (rI CDivZ fun i j => .int (i.fdiv j)) (tOp (rI CMulW fun i j => .int (i * j)) (tVar 4) (tVar 0)) (tVar 2)) (tCons (tOp (rI CDivZ fun i j => .int (i.fdiv j)) (tOp (rI CMulW fun i j => .int (i * j)) (tVar 4) (tVar 1)) (tVar 2)) tNil))) { nx := fun _ H' => Q .non H', rt := Q } ([some (.int t), some (.int b), some (.int (Int.gcd t b : Nat)), some (.int 0), some (.int s)] : L2.St) H' := by
        intro s hs
        have s1 : s = 1 ∨ s = -1 := by rw [hs]; split <;> simp
        refine ⟨_, rfl, _, rfl, _, _, rfl, rfl, cm s t s1 htd, _, rfl, _, _, rfl, rfl, cd _, _, rfl, _, rfl, _, _, rfl, rfl, cm s b s1 hbd, _, rfl, _, _, rfl, rfl, cd _, (by show 2 ≤ sizeLine; decide), fun q hq => k q _ (AT.Same.up hq) hq ?_⟩
        show upd H' q (.tup [.int ((s * t).fdiv (Int.gcd t b : Nat)), .int ((s * b).fdiv (Int.gcd t b : Nat))]) q = _
        rw [upd_same, sg_num s hs hb0, sg_den s hs hb0]
        rfl
      refine ⟨_, rfl, _, _, rfl, rfl, _, rfl, ?_⟩
      refine ite2 (fun h2 => ?_) (fun h2 => ?_)
      · have h2' : b < 0 := of_decide_eq_true h2
        exact ⟨_, rfl, fin (-1) (by rw [if_pos h2'])⟩
      · have h2' : ¬ b < 0 := of_decide_eq_false (by simpa using h2)
        exact fin 1 (by rw [if_neg h2'])
/-- a pair that stands for q -/
def PQ (H : Hp) (v : V) (q : Rat) : Prop := ∃ a, v = .ref a ∧ H a = some (pairQ q)
theorem PQ.up {H H' : Hp} {v : V} {q : Rat} (h : PQ H v q) (s : Same H H') : PQ H' v q := h.imp fun _ z => ⟨z.1, s _ _ z.2⟩
theorem mul4 {i j : Int} (h : i.natAbs < 2 ^ 400) (g : j.natAbs < 2 ^ 400) : CMulW i j := wide_mul h g (by decide) (by decide) (by decide)
theorem den_of {k : Nat} {q : Rat} (h : Bits k q) : ((q.den : Nat) : Int).natAbs < 2 ^ k := den_bits h
def spTwo (op : Rat → Rat → Rat) : Sp := fun vs H Q _ => ∃ v1 v2 x y, vs = [v1, v2] ∧ PQ H v1 x ∧ PQ H v2 y ∧ Bits 400 x ∧ Bits 400 y ∧ ∀ v H', Same H H' → PQ H' v (op x y) → Q v H'
theorem sc_w_sum : FnScope ["_law_one", "_law_other"] ["_law_one", "_law_other"] (defScope s_w_sum) := ⟨rfl, rfl, rfl, by decide +kernel, rfl, by decide +kernel, by decide +kernel⟩
theorem ok_w_sum (T : Tx K mg base) : Ok P w K mg base 2 (d_w_sum.loc K) ["_law_one", "_law_other"] (spTwo fun x y => x + y) := by
  refine mk_ok (k := 1) T.f_w_sum sc_w_sum (fun _ _ _ _ _ _ us hl => match us, hl with | [_, _], _ => rfl) (fun vs H Q E h => ?_) (fun cdv A outer s H vs Q E hr h => ?_)
  · obtain ⟨v1, v2, x, y, rfl, _⟩ := h
    rfl
  · obtain ⟨_, _, x, y, rfl, ⟨a, rfl, ha⟩, ⟨b, rfl, hb⟩, bx, by_, k⟩ := h
    refine ⟨_, (pss_one (ps_ret (ok_call (ok_w_frac T) (hr.mono (by decide)) rfl T.g_w_frac passL (pa_cons (pe_op op_add (pe_op op_mulW (pe_ix ix_tup (pv 0) pe_int (fun _ _ => rfl)) (pe_ix ix_tup (pv 1) pe_int (fun _ _ => rfl))) (pe_op op_mulW (pe_ix ix_tup (pv 1) pe_int (fun _ _ => rfl)) (pe_ix ix_tup (pv 0) pe_int (fun _ _ => rfl)))) (pa_cons (pe_op op_mulW (pe_ix ix_tup (pv 0) pe_int (fun _ _ => rfl)) (pe_ix ix_tup (pv 1) pe_int (fun _ _ => rfl))) pa_nil))))), ?_⟩
    have m1 := mul_bits bx.1 (den_bits by_)
    have m2 := mul_bits by_.1 (den_bits bx)
    have m3 := mul_bits (den_bits bx) (den_bits by_)
    refine ⟨_, rfl, a, _, 0, _, rfl, rfl, SqT.of ha, rfl, _, rfl, b, _, 1, _, rfl, rfl, SqT.of hb, rfl, _, _, rfl, rfl, mul4 bx.1 (den_bits by_), _, rfl, b, _, 0, _, rfl, rfl, SqT.of hb, rfl, _, rfl, a, _, 1, _, rfl, rfl, SqT.of ha, rfl, _, _, rfl, rfl, mul4 by_.1 (den_bits bx), _, _, rfl, rfl, ?_⟩
    refine ⟨_, rfl, a, _, 1, _, rfl, rfl, SqT.of ha, rfl, _, rfl, b, _, 1, _, rfl, rfl, SqT.of hb, rfl, _, _, rfl, rfl, mul4 (den_bits bx) (den_bits by_), _, _, rfl, Int.mul_ne_zero (den_ne x) (den_ne y), ?_, ?_, fun q H' s hq e => ?_⟩
    · have : (2 : Nat) ^ (400 + 400) + 2 ^ (400 + 400) < 2 ^ 1000 := by decide +kernel
      show (x.num * (y.den : Int) + y.num * (x.den : Int)).natAbs < _
      omega
    · exact Nat.lt_trans m3 (by decide +kernel)
    · refine k _ _ s ⟨q, rfl, ?_⟩
      rw [e]
      exact congrArg (fun z => some (pairQ z)) (q_add x y)
theorem sc_w_rest : FnScope ["_law_one", "_law_other"] ["_law_one", "_law_other"] (defScope s_w_rest) := ⟨rfl, rfl, rfl, by decide +kernel, rfl, by decide +kernel, by decide +kernel⟩
theorem ok_w_rest (T : Tx K mg base) : Ok P w K mg base 2 (d_w_rest.loc K) ["_law_one", "_law_other"] (spTwo fun x y => x - y) := by
  refine mk_ok (k := 1) T.f_w_rest sc_w_rest (fun _ _ _ _ _ _ us hl => match us, hl with | [_, _], _ => rfl) (fun vs H Q E h => ?_) (fun cdv A outer s H vs Q E hr h => ?_)
  · obtain ⟨v1, v2, x, y, rfl, _⟩ := h
    rfl
  · obtain ⟨_, _, x, y, rfl, ⟨a, rfl, ha⟩, ⟨b, rfl, hb⟩, bx, by_, k⟩ := h
    refine ⟨_, (pss_one (ps_ret (ok_call (ok_w_frac T) (hr.mono (by decide)) rfl T.g_w_frac passL (pa_cons (pe_op op_sub (pe_op op_mulW (pe_ix ix_tup (pv 0) pe_int (fun _ _ => rfl)) (pe_ix ix_tup (pv 1) pe_int (fun _ _ => rfl))) (pe_op op_mulW (pe_ix ix_tup (pv 1) pe_int (fun _ _ => rfl)) (pe_ix ix_tup (pv 0) pe_int (fun _ _ => rfl)))) (pa_cons (pe_op op_mulW (pe_ix ix_tup (pv 0) pe_int (fun _ _ => rfl)) (pe_ix ix_tup (pv 1) pe_int (fun _ _ => rfl))) pa_nil))))), ?_⟩
    have m1 := mul_bits bx.1 (den_bits by_)
    have m2 := mul_bits by_.1 (den_bits bx)
    have m3 := mul_bits (den_bits bx) (den_bits by_)
    refine ⟨_, rfl, a, _, 0, _, rfl, rfl, SqT.of ha, rfl, _, rfl, b, _, 1, _, rfl, rfl, SqT.of hb, rfl, _, _, rfl, rfl, mul4 bx.1 (den_bits by_), _, rfl, b, _, 0, _, rfl, rfl, SqT.of hb, rfl, _, rfl, a, _, 1, _, rfl, rfl, SqT.of ha, rfl, _, _, rfl, rfl, mul4 by_.1 (den_bits bx), _, _, rfl, rfl, ?_⟩
    refine ⟨_, rfl, a, _, 1, _, rfl, rfl, SqT.of ha, rfl, _, rfl, b, _, 1, _, rfl, rfl, SqT.of hb, rfl, _, _, rfl, rfl, mul4 (den_bits bx) (den_bits by_), _, _, rfl, Int.mul_ne_zero (den_ne x) (den_ne y), ?_, ?_, fun q H' s hq e => ?_⟩
    · have : (2 : Nat) ^ (400 + 400) + 2 ^ (400 + 400) < 2 ^ 1000 := by decide +kernel
      show (x.num * (y.den : Int) - y.num * (x.den : Int)).natAbs < _
      omega
    · exact Nat.lt_trans m3 (by decide +kernel)
    · refine k _ _ s ⟨q, rfl, ?_⟩
      rw [e]
      exact congrArg (fun z => some (pairQ z)) (q_sub x y)
end
end K08

set_option maxHeartbeats 4000000
namespace K08
open PySem PySem.Spec PyProof.Rows L2 AT
/-! ### fractions with a small bottom -/
def Fine (m : Nat) (q : Rat) : Prop := ∃ k : Int, q = (k : Rat) / 84 ∧ k.natAbs ≤ 84 * m
theorem Fine.add {m n : Nat} {x y : Rat} (h : Fine m x) (g : Fine n y) : Fine (m + n) (x + y) := by
  obtain ⟨k, rfl, hk⟩ := h
  obtain ⟨l, rfl, hl⟩ := g
  exact ⟨k + l, by rw [Rat.intCast_add]; grind, by omega⟩
theorem Fine.sub {m n : Nat} {x y : Rat} (h : Fine m x) (g : Fine n y) : Fine (m + n) (x - y) := by
  obtain ⟨k, rfl, hk⟩ := h
  obtain ⟨l, rfl, hl⟩ := g
  exact ⟨k - l, by rw [Rat.intCast_sub]; grind, by omega⟩
theorem Fine.mono {m n : Nat} {x : Rat} (h : Fine m x) (l : m ≤ n) : Fine n x := by
  obtain ⟨k, e, hk⟩ := h
  exact ⟨k, e, by omega⟩
theorem fine_eq (k : Int) : (k : Rat) / 84 = Rat.divInt k 84 := by
  rw [Rat.divInt_eq_div]
  rfl
theorem Fine.bits {m : Nat} {x : Rat} (h : Fine m x) (hm : m ≤ 100000) : Bits 60 x := by
  obtain ⟨k, rfl, hk⟩ := h
  rw [fine_eq]
  refine bits_of (by decide) ?_ (by decide)
  have : (2 : Nat) ^ 60 = 1152921504606846976 := by decide
  omega
theorem Fine.lt {m n : Nat} {x : Rat} (h : Fine m x) (l : m < n) : x < (n : Rat) := by
  obtain ⟨k, rfl, hk⟩ := h
  have h1 : k < 84 * (n : Int) := by omega
  have h2 : (k : Rat) < ((84 * (n : Int) : Int) : Rat) := Rat.intCast_lt_intCast.mpr h1
  rw [Rat.intCast_mul] at h2
  have h3 : (((n : Int) : Rat)) = (n : Rat) := rfl
  rw [h3] at h2
  grind
theorem fine_frac {t b : Int} (hb : b = 1 ∨ b = 2 ∨ b = 3 ∨ b = 4 ∨ b = 7) (m : Nat) (ht : t.natAbs ≤ m) : Fine m (Rat.divInt t b) := by
  rw [Rat.divInt_eq_div]
  rcases hb with rfl | rfl | rfl | rfl | rfl
  · exact ⟨t * 84, by rw [Rat.intCast_mul]; grind, by omega⟩
  · exact ⟨t * 42, by rw [Rat.intCast_mul]; grind, by omega⟩
  · exact ⟨t * 28, by rw [Rat.intCast_mul]; grind, by omega⟩
  · exact ⟨t * 21, by rw [Rat.intCast_mul]; grind, by omega⟩
  · exact ⟨t * 12, by rw [Rat.intCast_mul]; grind, by omega⟩
section
variable {P : Program} {w : World} {K : PySem.W.Frag} {mg : Str → Option Value} {base : Heap}
theorem PQ.upX {H H' : Hp} {v : V} {q : Rat} {p : Addr} {n : Nat} (h : PQ H v q) (b : BoxAt H p n) (s : SameX p H H') : PQ H' v q := by
  obtain ⟨a, e, z⟩ := h
  refine ⟨a, e, s _ _ ?_ z⟩
  rintro rfl
  obtain ⟨_, _, _, e2, _⟩ := b
  rw [z] at e2
  cases e2
theorem big {x : Int} (h : x.natAbs ≤ 1000000000000000000000000000000) : x.natAbs < 2 ^ 1000 := Nat.lt_of_le_of_lt h (by decide +kernel)
theorem box_ne {H : Hp} {p q : Addr} {n : Nat} (hb : BoxAt H p n) (hq : H q = none) : q ≠ p := by
  obtain ⟨a, b, c, e, _⟩ := hb
  rintro rfl
  rw [hq] at e
  cases e
def spDraw (f : Rat → Prop) : Sp := fun vs H Q _ => ∃ (p : Addr) (n : Nat), vs = [.ref p] ∧ BoxAt H p n ∧ n ≤ 10000 ∧ ∀ v q H', SameX p H H' → BoxAt H' p (n + 3) → PQ H' v q → f q → Q v H'
theorem pick4 {r : Int} (h0 : 0 ≤ r) (h1 : r < 4) : ∃ b : Int, atI [V.int 1, V.int 2, V.int 3, V.int 4] r = some (.int b) ∧ (b = 1 ∨ b = 2 ∨ b = 3 ∨ b = 4 ∨ b = 7) := by
  obtain rfl | rfl | rfl | rfl : r = 0 ∨ r = 1 ∨ r = 2 ∨ r = 3 := by omega
  all_goals exact ⟨_, rfl, by decide⟩
theorem pick6 {r : Int} (h0 : 0 ≤ r) (h1 : r < 6) : ∃ b : Int, atI [V.int 1, V.int 1, V.int 2, V.int 3, V.int 4, V.int 7] r = some (.int b) ∧ (b = 1 ∨ b = 2 ∨ b = 3 ∨ b = 4 ∨ b = 7) := by
  obtain rfl | rfl | rfl | rfl | rfl | rfl : r = 0 ∨ r = 1 ∨ r = 2 ∨ r = 3 ∨ r = 4 ∨ r = 5 := by omega
  all_goals exact ⟨_, rfl, by decide⟩
theorem sc_w_fraction : FnScope ["_law_bag_here", "_law_way"] ["_law_bag_here"] (defScope s_w_fraction) := ⟨rfl, rfl, rfl, by decide +kernel, rfl, by decide +kernel, by decide +kernel⟩
theorem ok_w_fraction (T : Tx K mg base) : Ok P w K mg base 2 (d_w_fraction.loc K) ["_law_bag_here"] (spDraw (Fine 900)) := by
  refine mk_ok (k := 1) T.f_w_fraction sc_w_fraction (fun _ _ _ _ _ _ us hl => match us, hl with | [_], _ => rfl) (fun vs H Q E h => ?_) (fun cdv A outer s H vs Q E hr h => ?_)
  · obtain ⟨p, n, rfl, _⟩ := h
    rfl
  · obtain ⟨p, n, rfl, hb, hn, k⟩ := h
    refine ⟨_, (pss_cons (ps_set (i := 1) sc_w_fraction.nd rfl (Or.inl rfl) (ok_call (ok_w_take T) (hr.mono (by decide)) rfl T.g_w_take passL (pa_cons (pv 0) (pa_cons pe_int pa_nil))))
      (pss_cons (ps_if (pt_cmpR op_eq (pv 1) pe_int (nomark _)) (pss_one (ps_ret (ok_call (ok_w_frac T) (hr.mono (by decide)) rfl T.g_w_frac passL (pa_cons (pe_op op_sub (ok_call (ok_w_take T) (hr.mono (by decide)) rfl T.g_w_take passL (pa_cons (pv 0) (pa_cons pe_int pa_nil))) pe_int) (pa_cons (pe_ix ix_list (pe_lst (pa_cons pe_int (pa_cons pe_int (pa_cons pe_int (pa_cons pe_int pa_nil))))) (ok_call (ok_w_take T) (hr.mono (by decide)) rfl T.g_w_take passL (pa_cons (pv 0) (pa_cons pe_int pa_nil))) (fun _ _ => rfl)) pa_nil))))) pss_nil)
      (pss_one (ps_ret (ok_call (ok_w_frac T) (hr.mono (by decide)) rfl T.g_w_frac passL (pa_cons (pe_op op_sub (ok_call (ok_w_take T) (hr.mono (by decide)) rfl T.g_w_take passL (pa_cons (pv 0) (pa_cons pe_int pa_nil))) pe_int) (pa_cons (pe_ix ix_list (pe_lst (pa_cons pe_int (pa_cons pe_int (pa_cons pe_int (pa_cons pe_int (pa_cons pe_int (pa_cons pe_int pa_nil))))))) (ok_call (ok_w_take T) (hr.mono (by decide)) rfl T.g_w_take passL (pa_cons (pv 0) (pa_cons pe_int pa_nil))) (fun _ _ => rfl)) pa_nil))))))), ?_⟩
    refine ⟨_, rfl, p, _, _, rfl, hb, (by omega), (by decide), (by decide +kernel), fun r1 H1 a1 a2 x1 b1 => ?_⟩
    refine ⟨_, rfl, rfl, _, rfl, ?_⟩
    by_cases c : r1 = 0
    · subst c
      rw [decide_eq_true rfl]
      refine iteT ⟨_, rfl, p, _, _, rfl, b1, (by omega), (by decide), (by decide +kernel), fun r2 H2 c1 c2 x2 b2 => ?_⟩
      refine ⟨_, _, rfl, rfl, (by show 4 ≤ sizeLine; decide), fun q hq => ?_⟩
      refine ⟨_, rfl, p, _, _, rfl, b2.up (AT.Same.up hq), (by omega), (by decide), (by decide +kernel), fun r3 H3 d1 d2 x3 b3 => ?_⟩
      obtain ⟨bb, eb, hbb⟩ := pick4 d1 d2
      have nb : bb ≠ 0 := by rcases hbb with z | z | z | z | z <;> omega
      refine ⟨q, _, r3, _, rfl, rfl, SqL.of (x3 _ _ (box_ne b2 hq) upd_same), eb, r2 - 900, bb, rfl, nb, big (by omega), big (by omega), fun u H4 s4 hu e4 => ?_⟩
      exact k _ _ H4 (((x1.trans x2).trans (sameX_of (AT.Same.up hq))).trans (x3.trans (sameX_of s4))) (b3.up s4) ⟨u, rfl, e4⟩ (fine_frac hbb 900 (by omega))
    · rw [decide_eq_false (fun z => c (V.int.inj z))]
      refine iteF ⟨_, rfl, p, _, _, rfl, b1, (by omega), (by decide), (by decide +kernel), fun r2 H2 c1 c2 x2 b2 => ?_⟩
      refine ⟨_, _, rfl, rfl, (by show 6 ≤ sizeLine; decide), fun q hq => ?_⟩
      refine ⟨_, rfl, p, _, _, rfl, b2.up (AT.Same.up hq), (by omega), (by decide), (by decide +kernel), fun r3 H3 d1 d2 x3 b3 => ?_⟩
      obtain ⟨bb, eb, hbb⟩ := pick6 d1 d2
      have nb : bb ≠ 0 := by rcases hbb with z | z | z | z | z <;> omega
      refine ⟨q, _, r3, _, rfl, rfl, SqL.of (x3 _ _ (box_ne b2 hq) upd_same), eb, r2 - 6, bb, rfl, nb, big (by omega), big (by omega), fun u H4 s4 hu e4 => ?_⟩
      exact k _ _ H4 (((x1.trans x2).trans (sameX_of (AT.Same.up hq))).trans (x3.trans (sameX_of s4))) (b3.up s4) ⟨u, rfl, e4⟩ (fine_frac hbb 900 (by omega))
theorem num_le {q : Rat} (h : ¬ 0 < q.num) : q ≤ 0 := by
  rcases (Rat.le_total : q ≤ 0 ∨ 0 ≤ q) with z | z
  · exact z
  · have := Rat.num_nonneg.mpr z
    have e : q.num = 0 := by omega
    rw [Rat.num_eq_zero.mp e]
    exact Rat.le_refl
theorem num_pos {q : Rat} (h : 0 < q.num) : 0 < q := by
  have h1 : 0 ≤ q := Rat.num_nonneg.mp (by omega)
  have h2 : q ≠ 0 := by
    rintro rfl
    exact absurd h (by decide)
  grind
theorem step_val {q : Rat} {m : Nat} (h : Fine m q) (hq : ¬ 0 < q.num) : Fine (m + 1) (Rat.divInt (1 - q.num) q.den) ∧ 0 < Rat.divInt (1 - q.num) q.den := by
  have hd : (0 : Rat) < (q.den : Rat) := Rat.natCast_pos.mpr (by have := q.den_nz; omega)
  have ec : (((q.den : Nat) : Int) : Rat) = (q.den : Rat) := rfl
  have e1 : Rat.divInt (1 - q.num) q.den = 1 / (q.den : Rat) - q := by
    have h1 : q = (q.num : Rat) / (q.den : Rat) := by
      have z := q_self q
      rw [Rat.divInt_eq_div, ec] at z
      exact z.symm
    rw [Rat.divInt_eq_div, Rat.intCast_sub, ec]
    have h2 : ((1 : Int) : Rat) = 1 := rfl
    rw [h2]
    generalize (q.num : Rat) = N at h1 ⊢
    generalize (q.den : Rat) = D at h1 hd ⊢
    subst h1
    grind
  have hle := num_le hq
  obtain ⟨k, e, hk⟩ := h
  have dg : q.den * Int.gcd 84 k = 84 := by
    have z : q.den = 84 / Int.gcd 84 k := by
      rw [e, fine_eq, Rat.den_divInt]
      rfl
    rw [z]
    exact Nat.div_mul_cancel (by have := Int.gcd_dvd_natAbs_left 84 k; simpa using this)
  have gl : Int.gcd 84 k ≤ 84 := Nat.le_of_dvd (by decide) ⟨q.den, by rw [Nat.mul_comm]; exact dg.symm⟩
  have dr : (q.den : Rat) * ((Int.gcd 84 k : Nat) : Rat) = 84 := by
    rw [← Rat.natCast_mul, dg]
    rfl
  have e3 : 1 / (q.den : Rat) = ((Int.gcd 84 k : Nat) : Rat) / 84 := by
    generalize ((Int.gcd 84 k : Nat) : Rat) = G at dr ⊢
    generalize (q.den : Rat) = D at dr hd ⊢
    grind
  rw [e1]
  refine ⟨⟨(Int.gcd 84 k : Nat) - k, ?_, by omega⟩, ?_⟩
  · rw [e3, e, Rat.intCast_sub]
    have : (((Int.gcd 84 k : Nat) : Int) : Rat) = ((Int.gcd 84 k : Nat) : Rat) := rfl
    rw [this]
    grind
  · have hp : 0 < 1 / (q.den : Rat) := by
      generalize (q.den : Rat) = D at hd
      have : 0 < D⁻¹ := Rat.inv_pos.mpr hd
      grind
    grind
theorem sc_w_step : FnScope ["_law_bag_here", "_law_found"] ["_law_bag_here"] (defScope s_w_step) := ⟨rfl, rfl, rfl, by decide +kernel, rfl, by decide +kernel, by decide +kernel⟩
theorem ok_w_step (T : Tx K mg base) : Ok P w K mg base 3 (d_w_step.loc K) ["_law_bag_here"] (spDraw fun q => Fine 901 q ∧ 0 < q) := by
  refine mk_ok (k := 2) T.f_w_step sc_w_step (fun _ _ _ _ _ _ us hl => match us, hl with | [_], _ => rfl) (fun vs H Q E h => ?_) (fun cdv A outer s H vs Q E hr h => ?_)
  · obtain ⟨p, n, rfl, _⟩ := h
    rfl
  · obtain ⟨p, n, rfl, hb, hn, k⟩ := h
    refine ⟨_, (pss_cons (ps_set (i := 1) sc_w_step.nd rfl (Or.inl rfl) (ok_call (ok_w_fraction T) (hr.mono (by decide)) rfl T.g_w_fraction passL (pa_cons (pv 0) pa_nil)))
      (pss_one (ps_ret (pe_ifExp (pt_cmpR op_gt (pe_ix ix_tup (pv 1) pe_int (fun _ _ => rfl)) pe_int (nomark _)) (pv 1) (ok_call (ok_w_frac T) (hr.mono (by decide)) rfl T.g_w_frac passL (pa_cons (pe_op op_sub pe_int (pe_ix ix_tup (pv 1) pe_int (fun _ _ => rfl))) (pa_cons (pe_ix ix_tup (pv 1) pe_int (fun _ _ => rfl)) pa_nil))))))), ?_⟩
    refine ⟨_, rfl, p, n, rfl, hb, hn, fun v q H1 x1 b1 hq fq => ?_⟩
    obtain ⟨a, rfl, ha⟩ := id hq
    refine ⟨_, rfl, a, _, 0, _, rfl, rfl, SqT.of ha, rfl, _, _, rfl, rfl, _, rfl, ?_⟩
    refine ite2 (fun h1 => ?_) (fun h1 => ?_)
    · have h1' : 0 < q.num := of_decide_eq_true h1
      exact ⟨_, rfl, k _ q H1 x1 b1 hq ⟨fq.mono (by decide), num_pos h1'⟩⟩
    · have h1' : ¬ 0 < q.num := of_decide_eq_false (by simpa using h1)
      have bq := fq.bits (by decide)
      refine ⟨_, rfl, a, _, 0, _, rfl, rfl, SqT.of ha, rfl, _, _, rfl, rfl, _, rfl, a, _, 1, _, rfl, rfl, SqT.of ha, rfl, 1 - q.num, q.den, rfl, den_ne q, ?_, ?_, fun u H2 s2 hu e2 => ?_⟩
      · have := bq.1
        have z : (2 : Nat) ^ 60 + 1 < 2 ^ 1000 := by decide +kernel
        omega
      · exact Nat.lt_trans (den_bits bq) (by decide +kernel)
      · exact k _ _ H2 (x1.trans (sameX_of s2)) (b1.up s2) ⟨u, rfl, e2⟩ (step_val fq h1')
end
end K08

set_option maxHeartbeats 4000000
namespace K08
open PySem PySem.Spec PyProof.Rows L2 AT
/-! ### the law's own points -/
def LP (H : Hp) (v : V) (p : Rat × Rat) : Prop := ∃ t x y, v = .ref t ∧ H t = some (.tup [x, y]) ∧ PQ H x p.1 ∧ PQ H y p.2
inductive LPs (H : Hp) : List V → List (Rat × Rat) → Prop
  | nil : LPs H [] []
  | cons {v : V} {p : Rat × Rat} {vs : List V} {ps : List (Rat × Rat)} : LP H v p → LPs H vs ps → LPs H (v :: vs) (p :: ps)
/-- the tuples stay -/
def SameT (H H' : Hp) : Prop := ∀ b xs, H b = some (.tup xs) → H' b = some (.tup xs)
theorem SameT.trans {H H1 H2 : Hp} (a : SameT H H1) (b : SameT H1 H2) : SameT H H2 := fun x xs e => b x xs (a x xs e)
theorem sameT_of {H H' : Hp} (s : Same H H') : SameT H H' := fun b xs e => s _ _ e
theorem sameT_box {H H' : Hp} {p : Addr} {n : Nat} (b : BoxAt H p n) (s : SameX p H H') : SameT H H' := fun x xs e => s _ _ (by
  rintro rfl
  obtain ⟨_, _, _, e2, _⟩ := b
  rw [e] at e2
  cases e2) e
theorem sameT_set {H : Hp} {D : Addr} {ys zs : List V} (h : H D = some (.lst ys)) : SameT H (upd H D (.lst zs)) := fun x xs e => by
  rw [upd_ne (by rintro rfl; rw [e] at h; cases h)]
  exact e
theorem PQ.upT {H H' : Hp} {v : V} {q : Rat} (h : PQ H v q) (s : SameT H H') : PQ H' v q := h.imp fun _ z => ⟨z.1, s _ _ z.2⟩
theorem LP.upT {H H' : Hp} {v : V} {p : Rat × Rat} (h : LP H v p) (s : SameT H H') : LP H' v p := by
  obtain ⟨t, x, y, e, h1, h2, h3⟩ := h
  exact ⟨t, x, y, e, s _ _ h1, h2.upT s, h3.upT s⟩
theorem LPs.upT {H H' : Hp} {vs : List V} {ps : List (Rat × Rat)} (h : LPs H vs ps) (s : SameT H H') : LPs H' vs ps := by
  induction h with
  | nil => exact .nil
  | cons a b ih => exact .cons (a.upT s) ih
theorem LPs.app {H : Hp} {vs : List V} {ps : List (Rat × Rat)} {v : V} {p : Rat × Rat} (h : LPs H vs ps) (g : LP H v p) : LPs H (vs ++ [v]) (ps ++ [p]) := by
  induction h with
  | nil => exact .cons g .nil
  | cons a b ih => exact .cons a ih
theorem LPs.length {H : Hp} {vs : List V} {ps : List (Rat × Rat)} (h : LPs H vs ps) : vs.length = ps.length := by
  induction h with
  | nil => rfl
  | cons a b ih => simp [ih]
theorem SameX.new {p D : Addr} {H H' : Hp} {o : HO} (s : SameX p H H') (hD : H D = none) : SameX p H (upd H' D o) := fun b u hb e => by
  rw [upd_ne (ne_of_none e hD)]
  exact s b u hb e
theorem BoxAt.new {p D : Addr} {H : Hp} {n : Nat} {o : HO} (h : BoxAt H p n) (hD : D ≠ p) : BoxAt (upd H D o) p n := by
  obtain ⟨a, b, c, e, r⟩ := h
  exact ⟨a, b, c, by rw [upd_ne (Ne.symm hD)]; exact e, r⟩
theorem rising_app : ∀ {ps : List (Rat × Rat)} {q : Rat × Rat}, Rising ps → (∀ l, ps.getLast? = some l → Below l q) → Rising (ps ++ [q])
  | [], _, _, _ => trivial
  | [p], q, _, h => ⟨h p rfl, trivial⟩
  | p :: r :: l, q, h, g => ⟨h.1, rising_app (ps := r :: l) h.2 fun x e => g x (by rw [List.getLast?_cons_cons]; exact e)⟩
def FineP (m : Nat) (p : Rat × Rat) : Prop := Fine m p.1 ∧ Fine m p.2
section
variable {P : Program} {w : World} {K : PySem.W.Frag} {mg : Str → Option Value} {base : Heap}
def spPts : Sp := fun vs H Q _ => ∃ (p : Addr) (n : Nat) (cap : Nat), vs = [.ref p, .int cap] ∧ BoxAt H p n ∧ n ≤ 1000 ∧ cap ≤ 10 ∧ ∀ D vs ps H', SameX p H H' → H D = none → BoxAt H' p (n + 500) → H' D = some (.lst vs) → LPs H' vs ps → Rising ps → ps.length ≤ cap → (∀ q ∈ ps, FineP 20000 q) → Q (.ref D) H'
def PvP (p D : Addr) (H : Hp) (n cap i : Nat) (σ' : L2.St) (H' : Hp) : Prop := ∃ (vb vc : V) (ws : List V) (ps : List (Rat × Rat)) (b c : Rat) (o5 o6 : Option V), σ' = ([some (.ref p), some (.int cap), some (.ref D), some vb, some vc, o5, o6] : L2.St) ∧ SameX p H H' ∧ BoxAt H' p (n + 7 + 20 * i) ∧ H' D = some (.lst ws) ∧ LPs H' ws ps ∧ ps.length = i ∧ Rising ps ∧ (∀ q ∈ ps, FineP 20000 q) ∧ PQ H' vb b ∧ PQ H' vc c ∧ Fine (900 + 901 * i) b ∧ Fine (900 + 901 * i) c ∧ ∀ l, ps.getLast? = some l → Below l (b, c)
theorem below_add {b c x y : Rat} (hx : 0 < x) (hy : 0 < y) : Below (b, c) (b + x, c + y) := ⟨by show b < b + x; grind, by show c < c + y; grind⟩
theorem sc_w_points : FnScope ["_law_bag_here", "_law_cap", "_law_found", "_law_beat", "_law_second", "_law_index", "_law_way"] ["_law_bag_here", "_law_cap"] (defScope s_w_points) := ⟨rfl, rfl, rfl, by decide +kernel, rfl, by decide +kernel, by decide +kernel⟩
theorem ok_w_points (T : Tx K mg base) : Ok P w K mg base 4 (d_w_points.loc K) ["_law_bag_here", "_law_cap"] spPts := by
  refine mk_ok (k := 3) T.f_w_points sc_w_points (fun _ _ _ _ _ _ us hl => match us, hl with | [_, _], _ => rfl) (fun vs H Q E h => ?_) (fun cdv A outer s H vs Q E hr h => ?_)
  · obtain ⟨p, n, cap, rfl, _⟩ := h
    rfl
  · obtain ⟨p, n, cap, rfl, hb, hn, hcap, k⟩ := h
    refine ⟨_, (pss_cons (ps_par3 (by rfl) sc_w_points.nd (i := 2) (j := 3) (l := 4) rfl rfl rfl (by decide) (by decide) (by decide) rfl rfl rfl (pa_cons (pe_lst pa_nil) (pa_cons (ok_call (ok_w_fraction T) (hr.mono (by decide)) rfl T.g_w_fraction passL (pa_cons (pv 0) pa_nil)) (pa_cons (ok_call (ok_w_fraction T) (hr.mono (by decide)) rfl T.g_w_fraction passL (pa_cons (pv 0) pa_nil)) pa_nil))) (by rfl))
      (pss_cons (ps_for (passes_of rfl) rfl (pi_range1 (by rfl) T.b_range (pa_cons (ok_call (ok_w_take T) (hr.mono (by decide)) rfl T.g_w_take passL (pa_cons (pv 0) (pa_cons (pe_op op_add (pv 1) pe_int) pa_nil))) pa_nil)) (pg_name (i := 5) sc_w_points.nd rfl (Or.inl rfl)) (pss_cons (ps_expr (pe_bm PySem.F.plainAttrs_list PySem.F.slot_list_append PySem.F.type_list_append mt_append (pv 2) (pa_cons (pe_tup (pa_cons (pv 3) (pa_cons (pv 4) pa_nil))) pa_nil)))
      (pss_cons (ps_set (i := 3) sc_w_points.nd rfl (Or.inl rfl) (ok_call (ok_w_sum T) (hr.mono (by decide)) rfl T.g_w_sum passL (pa_cons (pv 3) (pa_cons (ok_call (ok_w_step T) (hr.mono (by decide)) rfl T.g_w_step passL (pa_cons (pv 0) pa_nil)) pa_nil))))
      (pss_cons (ps_set (i := 6) sc_w_points.nd rfl (Or.inl rfl) (ok_call (ok_w_take T) (hr.mono (by decide)) rfl T.g_w_take passL (pa_cons (pv 0) (pa_cons pe_int pa_nil))))
      (pss_one (ps_set (i := 4) sc_w_points.nd rfl (Or.inl rfl) (pe_ifExp (pt_cmpR op_gt (pv 6) pe_int (nomark _)) (ok_call (ok_w_sum T) (hr.mono (by decide)) rfl T.g_w_sum passL (pa_cons (pv 4) (pa_cons (ok_call (ok_w_step T) (hr.mono (by decide)) rfl T.g_w_step passL (pa_cons (pv 0) pa_nil)) pa_nil))) (ok_call (ok_w_sum T) (hr.mono (by decide)) rfl T.g_w_sum passL (pa_cons (pv 4) (pa_cons (ok_call (ok_w_rest T) (hr.mono (by decide)) rfl T.g_w_rest passL (pa_cons (pv 3) (pa_cons (pe_ix ix_tup (pe_ix ix_list (pv 2) (pe_un un_neg pe_int) (fun _ _ => rfl)) pe_int (fun _ _ => rfl)) pa_nil))) pa_nil))))))))))
      (pss_one (ps_ret (pv 2))))), ?_⟩
    have hsz : sizeLine = 16777216 := sizeLine_eq
    refine ⟨Nat.zero_le _, fun D hD => ?_⟩
    have hDp := box_ne hb hD
    refine ⟨_, rfl, p, n, rfl, hb.new hDp, (by omega), fun v1 q1 H1 x1 b1 pq1 f1 => ?_⟩
    refine ⟨_, rfl, p, _, rfl, b1, (by omega), fun v2 q2 H2 x2 b2 pq2 f2 => ?_⟩
    have hD3 : H2 D = some (.lst []) := x2 _ _ hDp (x1 _ _ hDp upd_same)
    have sx3 : SameX p H H2 := ((SameX.new (SameX.refl p H) hD).trans x1).trans x2
    have pq1' := pq1.upX b1 x2
    refine ⟨_, _, _, rfl, ?_⟩
    have b3 := b2
    refine ⟨_, rfl, _, rfl, _, _, rfl, rfl, p, _, _, rfl, b3, (by omega), (by omega), big (by omega), fun r H4 c1 c2 x4 b4 => ?_⟩
    refine ⟨r, rfl, (by omega), (by omega), for_range (lo := 0) (n := r.toNat) (PvP p D H n cap) ?_ ?_ ?_⟩
    · refine ⟨v1, v2, [], [], q1, q2, _, _, rfl, sx3.trans x4, b4.mono (by omega), x4 _ _ hDp hD3, .nil, rfl, trivial, (fun _ h => nomatch h), pq1'.upX b3 x4, pq2.upX b3 x4, f1.mono (by omega), f2.mono (by omega), (fun _ h => nomatch h)⟩
    · rintro i σ' H' hi ⟨vb, vc, ws, ps, b, c, o5, o6, rfl, sx, bx, hl, lp, lps, hris, hfine, pb, pc, fb, fc, hlast⟩
      have i10 : i < 10 := by omega
      have lw := lp.length
      refine ⟨_, rfl, tyV_lst hl, _, rfl, _, rfl, (by show 2 ≤ sizeLine; decide), fun tn htn => ?_⟩
      have sA := AT.Same.up (o := .tup [vb, vc]) htn
      have hlA := sA _ _ hl
      refine ⟨D, ws, _, rfl, rfl, hlA, (by omega), ?_⟩
      have tA : SameT H' (upd (upd H' tn (.tup [vb, vc])) D (.lst (ws ++ [.ref tn]))) := (sameT_of sA).trans (sameT_set hlA)
      have bA : BoxAt (upd (upd H' tn (.tup [vb, vc])) D (.lst (ws ++ [.ref tn]))) p (n + 7 + 20 * i) := (bx.up sA).new hDp
      have xA : SameX p H (upd (upd H' tn (.tup [vb, vc])) D (.lst (ws ++ [.ref tn]))) := SameX.new (sx.trans (sameX_of sA)) hD
      have ntD : tn ≠ D := by rintro rfl; rw [hl] at htn; cases htn
      have hlB : upd (upd H' tn (.tup [vb, vc])) D (.lst (ws ++ [.ref tn])) D = some (.lst (ws ++ [.ref tn])) := upd_same
      have htB : upd (upd H' tn (.tup [vb, vc])) D (.lst (ws ++ [.ref tn])) tn = some (.tup [vb, vc]) := by rw [upd_ne ntD]; exact upd_same
      generalize upd (upd H' tn (.tup [vb, vc])) D (.lst (ws ++ [.ref tn])) = HA at tA bA xA hlB htB ⊢
      have lpA : LPs HA (ws ++ [.ref tn]) (ps ++ [(b, c)]) := (lp.upT tA).app ⟨tn, vb, vc, rfl, htB, pb.upT tA, pc.upT tA⟩
      have bb : Bits 400 b := (fb.bits (by omega)).mono (by decide)
      have bc : Bits 400 c := (fc.bits (by omega)).mono (by decide)
      -- beat
      refine ⟨_, rfl, _, rfl, p, _, rfl, bA, (by omega), fun v3 st HB xB bB p3 f3 => ?_⟩
      obtain ⟨f3, z3⟩ := f3
      have b3' : Bits 400 st := (f3.bits (by decide)).mono (by decide)
      refine ⟨vb, v3, b, st, rfl, (pb.upT tA).upX bA xB, p3, bb, b3', fun v4 HC sC p4 => ?_⟩
      have tC : SameT HA HC := (sameT_box bA xB).trans (sameT_of sC)
      have xC : SameX p HA HC := xB.trans (sameX_of sC)
      have bC := bB.up sC
      have f4 : Fine (900 + 901 * i + 901) (b + st) := fb.add f3
      -- way
      refine ⟨_, rfl, p, _, _, rfl, bC, (by omega), (by decide), (by decide +kernel), fun rw HD d1 d2 xD bD => ?_⟩
      have tD : SameT HA HD := tC.trans (sameT_box bC xD)
      have xD' : SameX p HA HD := xC.trans xD
      have p4D : PQ HD v4 (b + st) := p4.upX bC xD
      have hlD : HD D = some (.lst (ws ++ [.ref tn])) := xD' _ _ hDp hlB
      have fin : ∀ (v5 : V) (s5 : Rat) (HE : Hp) (o5 : Option V), SameT HD HE → SameX p HD HE → BoxAt HE p (n + 7 + 20 * (i + 1)) → PQ HE v5 (c + s5) → Fine 901 s5 → 0 < s5 → PvP p D H n cap (i + 1) ([some (.ref p), some (.int cap), some (.ref D), some v4, some v5, o5, some (.int rw)] : L2.St) HE := by
        intro v5 s5 HE o5 tE xE bE p5 f5 z5
        refine ⟨v4, v5, ws ++ [.ref tn], ps ++ [(b, c)], b + st, c + s5, o5, _, rfl, (xA.trans xD').trans xE, bE, xE _ _ hDp hlD, lpA.upT (tD.trans tE), (by rw [List.length_append, lps]; rfl), rising_app hris hlast, ?_, p4D.upT tE, p5, f4.mono (by omega), (fc.add f5).mono (by omega), ?_⟩
        · intro q hq
          rcases List.mem_append.mp hq with z | z
          · exact hfine q z
          · rw [List.mem_singleton.mp z]
            exact ⟨fb.mono (by omega), fc.mono (by omega)⟩
        · intro l hl
          rw [List.getLast?_append] at hl
          simp at hl
          subst hl
          exact below_add z3 z5
      refine ⟨_, rfl, _, _, rfl, rfl, _, rfl, ?_⟩
      refine ite2 (fun h1 => ?_) (fun h1 => ?_)
      · refine ⟨_, rfl, _, rfl, p, _, rfl, bD, (by omega), fun v5 s5 HE xE bE p5 f5 => ?_⟩
        obtain ⟨f5, z5⟩ := f5
        refine ⟨vc, v5, c, s5, rfl, (pc.upT (tA.trans tD)).upX bD xE, p5, bc, (f5.bits (by decide)).mono (by decide), fun v6 HF sF p6 => ?_⟩
        exact fin v6 s5 HF _ ((sameT_box bD xE).trans (sameT_of sF)) (xE.trans (sameX_of sF)) ((bE.up sF).mono (by omega)) p6 f5 z5
      · refine ⟨_, rfl, _, rfl, _, rfl, _, rfl, D, _, _, _, rfl, rfl, SqL.of hlD, at_last (x := .ref tn) (by rw [List.getLast?_append]; rfl), tn, _, 0, _, rfl, rfl, SqT.of (tD _ _ htB), rfl, v4, vb, b + st, b, rfl, p4D, pb.upT (tA.trans tD), (f4.bits (by omega)).mono (by decide), bb, fun v5 HE sE p5 => ?_⟩
        have e5 : b + st - b = st := by grind
        have p5 : PQ HE v5 (b + st - b) := p5
        rw [e5] at p5
        refine ⟨vc, v5, c, st, rfl, (pc.upT (tA.trans tD)).up sE, p5, bc, b3', fun v6 HF sF p6 => ?_⟩
        exact fin v6 st HF _ (sameT_of (sE.trans sF)) (sameX_of (sE.trans sF)) ((bD.up (sE.trans sF)).mono (by omega)) p6 f3 z3
    · rintro σ' H' ⟨vb, vc, ws, ps, b, c, o5, o6, rfl, sx, bx, hl, lp, lps, hris, hfine, pb, pc, fb, fc, hlast⟩
      exact ⟨_, rfl, k D ws ps H' sx hD (bx.mono (by omega)) hl lp hris (by omega) hfine⟩
end
end K08

set_option maxHeartbeats 4000000
namespace K08
open PySem PySem.Spec PyProof.Rows L2 AT
section
variable {P : Program} {w : World} {K : PySem.W.Frag} {mg : Str → Option Value} {base : Heap}
def spLess : Sp := fun vs H Q _ => ∃ v1 v2 x y, vs = [v1, v2] ∧ PQ H v1 x ∧ PQ H v2 y ∧ Bits 400 x ∧ Bits 400 y ∧ Q (.bl (decide (x < y))) H
theorem sc_w_less : FnScope ["_law_one", "_law_other"] ["_law_one", "_law_other"] (defScope s_w_less) := ⟨rfl, rfl, rfl, by decide +kernel, rfl, by decide +kernel, by decide +kernel⟩
theorem ok_w_less (T : Tx K mg base) : Ok P w K mg base 1 (d_w_less.loc K) ["_law_one", "_law_other"] spLess := by
  refine mk_ok (k := 0) T.f_w_less sc_w_less (fun _ _ _ _ _ _ us hl => match us, hl with | [_, _], _ => rfl) (fun vs H Q E h => ?_) (fun cdv A outer s H vs Q E hr h => ?_)
  · obtain ⟨v1, v2, x, y, rfl, _⟩ := h
    rfl
  · obtain ⟨_, _, x, y, rfl, ⟨a, rfl, ha⟩, ⟨b, rfl, hb⟩, bx, by_, k⟩ := h
    refine ⟨_, (pss_one (ps_ret (pe_cmpR op_lt (pe_op op_mulW (pe_ix ix_tup (pv 0) pe_int (fun _ _ => rfl)) (pe_ix ix_tup (pv 1) pe_int (fun _ _ => rfl))) (pe_op op_mulW (pe_ix ix_tup (pv 1) pe_int (fun _ _ => rfl)) (pe_ix ix_tup (pv 0) pe_int (fun _ _ => rfl))) (nomark _)))), ?_⟩
    refine ⟨_, rfl, a, _, 0, _, rfl, rfl, SqT.of ha, rfl, _, rfl, b, _, 1, _, rfl, rfl, SqT.of hb, rfl, _, _, rfl, rfl, mul4 bx.1 (den_bits by_), _, rfl, b, _, 0, _, rfl, rfl, SqT.of hb, rfl, _, rfl, a, _, 1, _, rfl, rfl, SqT.of ha, rfl, _, _, rfl, rfl, mul4 by_.1 (den_bits bx), _, _, rfl, rfl, ?_⟩
    have e : decide (x.num * (y.den : Int) < y.num * (x.den : Int)) = decide (x < y) := by rw [decide_eq_decide, Rat.lt_iff]
    rw [← e] at k
    exact k
theorem sc_w_product : FnScope ["_law_one", "_law_other"] ["_law_one", "_law_other"] (defScope s_w_product) := ⟨rfl, rfl, rfl, by decide +kernel, rfl, by decide +kernel, by decide +kernel⟩
theorem ok_w_product (T : Tx K mg base) : Ok P w K mg base 2 (d_w_product.loc K) ["_law_one", "_law_other"] (spTwo fun x y => x * y) := by
  refine mk_ok (k := 1) T.f_w_product sc_w_product (fun _ _ _ _ _ _ us hl => match us, hl with | [_, _], _ => rfl) (fun vs H Q E h => ?_) (fun cdv A outer s H vs Q E hr h => ?_)
  · obtain ⟨v1, v2, x, y, rfl, _⟩ := h
    rfl
  · obtain ⟨_, _, x, y, rfl, ⟨a, rfl, ha⟩, ⟨b, rfl, hb⟩, bx, by_, k⟩ := h
    refine ⟨_, (pss_one (ps_ret (ok_call (ok_w_frac T) (hr.mono (by decide)) rfl T.g_w_frac passL (pa_cons (pe_op op_mulW (pe_ix ix_tup (pv 0) pe_int (fun _ _ => rfl)) (pe_ix ix_tup (pv 1) pe_int (fun _ _ => rfl))) (pa_cons (pe_op op_mulW (pe_ix ix_tup (pv 0) pe_int (fun _ _ => rfl)) (pe_ix ix_tup (pv 1) pe_int (fun _ _ => rfl))) pa_nil))))), ?_⟩
    have m1 := mul_bits bx.1 by_.1
    have m3 := mul_bits (den_bits bx) (den_bits by_)
    refine ⟨_, rfl, a, _, 0, _, rfl, rfl, SqT.of ha, rfl, _, rfl, b, _, 0, _, rfl, rfl, SqT.of hb, rfl, _, _, rfl, rfl, mul4 bx.1 by_.1, _, rfl, a, _, 1, _, rfl, rfl, SqT.of ha, rfl, _, rfl, b, _, 1, _, rfl, rfl, SqT.of hb, rfl, _, _, rfl, rfl, mul4 (den_bits bx) (den_bits by_), _, _, rfl, Int.mul_ne_zero (den_ne x) (den_ne y), ?_, ?_, fun q H' s hq e => ?_⟩
    · exact Nat.lt_trans m1 (by decide +kernel)
    · exact Nat.lt_trans m3 (by decide +kernel)
    · refine k _ _ s ⟨q, rfl, ?_⟩
      rw [e]
      exact congrArg (fun z => some (pairQ z)) (q_mul x y)
def spQuo : Sp := fun vs H Q _ => ∃ v1 v2 x y, vs = [v1, v2] ∧ PQ H v1 x ∧ PQ H v2 y ∧ Bits 400 x ∧ Bits 400 y ∧ y ≠ 0 ∧ ∀ v H', Same H H' → PQ H' v (x / y) → Q v H'
theorem sc_w_quotient : FnScope ["_law_one", "_law_other"] ["_law_one", "_law_other"] (defScope s_w_quotient) := ⟨rfl, rfl, rfl, by decide +kernel, rfl, by decide +kernel, by decide +kernel⟩
theorem ok_w_quotient (T : Tx K mg base) : Ok P w K mg base 2 (d_w_quotient.loc K) ["_law_one", "_law_other"] spQuo := by
  refine mk_ok (k := 1) T.f_w_quotient sc_w_quotient (fun _ _ _ _ _ _ us hl => match us, hl with | [_, _], _ => rfl) (fun vs H Q E h => ?_) (fun cdv A outer s H vs Q E hr h => ?_)
  · obtain ⟨v1, v2, x, y, rfl, _⟩ := h
    rfl
  · obtain ⟨_, _, x, y, rfl, ⟨a, rfl, ha⟩, ⟨b, rfl, hb⟩, bx, by_, hy, k⟩ := h
    refine ⟨_, (pss_one (ps_ret (ok_call (ok_w_frac T) (hr.mono (by decide)) rfl T.g_w_frac passL (pa_cons (pe_op op_mulW (pe_ix ix_tup (pv 0) pe_int (fun _ _ => rfl)) (pe_ix ix_tup (pv 1) pe_int (fun _ _ => rfl))) (pa_cons (pe_op op_mulW (pe_ix ix_tup (pv 0) pe_int (fun _ _ => rfl)) (pe_ix ix_tup (pv 1) pe_int (fun _ _ => rfl))) pa_nil))))), ?_⟩
    have m1 := mul_bits bx.1 (den_bits by_)
    have m3 := mul_bits (den_bits bx) by_.1
    refine ⟨_, rfl, a, _, 0, _, rfl, rfl, SqT.of ha, rfl, _, rfl, b, _, 1, _, rfl, rfl, SqT.of hb, rfl, _, _, rfl, rfl, mul4 bx.1 (den_bits by_), _, rfl, a, _, 1, _, rfl, rfl, SqT.of ha, rfl, _, rfl, b, _, 0, _, rfl, rfl, SqT.of hb, rfl, _, _, rfl, rfl, mul4 (den_bits bx) by_.1, _, _, rfl, Int.mul_ne_zero (den_ne x) (num_ne hy), ?_, ?_, fun q H' s hq e => ?_⟩
    · exact Nat.lt_trans m1 (by decide +kernel)
    · exact Nat.lt_trans m3 (by decide +kernel)
    · refine k _ _ s ⟨q, rfl, ?_⟩
      rw [e]
      exact congrArg (fun z => some (pairQ z)) (q_div x y)
def spPair (K : PySem.W.Frag) : Sp := fun vs H Q _ => ∃ a q, vs = [.ref a] ∧ IsQ K H a q ∧ ∀ v H', Same H H' → PQ H' v q → Q v H'
theorem sc_w_pair : FnScope ["_law_amount"] ["_law_amount"] (defScope s_w_pair) := ⟨rfl, rfl, rfl, by decide +kernel, rfl, by decide +kernel, by decide +kernel⟩
theorem ok_w_pair (T : Tx K mg base) : Ok P w K mg base 3 (d_w_pair.loc K) ["_law_amount"] (spPair K) := by
  refine mk_ok (k := 2) T.f_w_pair sc_w_pair (fun _ _ _ _ _ _ us hl => match us, hl with | [_], _ => rfl) (fun vs H Q E h => ?_) (fun cdv A outer s H vs Q E hr h => ?_)
  · obtain ⟨a, q, rfl, _⟩ := h
    rfl
  · obtain ⟨a, q, rfl, ha, k⟩ := h
    refine ⟨_, (pss_one (ps_ret (pe_ifExp (pt_val (pe_callB call_isi (by rfl) T.b_isinstance (by decide +kernel) (pa_cons (pv 0) (pa_cons (pe_gr T.g_Amount) pa_nil)))) (pe_tup (pa_cons (ok_prop T.cls_Amount T.pr_Amount_top (ok_Amount_top T) (hr.mono (by decide)) (pv 0)) (pa_cons (ok_prop T.cls_Amount T.pr_Amount_bottom (ok_Amount_bottom T) (hr.mono (by decide)) (pv 0)) pa_nil))) pe_non))), ?_⟩
    obtain ⟨da, ha1⟩ := id ha
    refine ⟨_, rfl, _, _, _, _, _, rfl, .own _, T.ins_Amount ha1, T.k_Amount_Amount, _, rfl, iteT ?_⟩
    refine ⟨_, rfl, a, da, _, rfl, ha1, a, q, rfl, ha, _, rfl, a, da, _, rfl, ha1, a, q, rfl, ha, (by show 2 ≤ sizeLine; decide), fun t ht => ?_⟩
    exact k _ _ (AT.Same.up ht) ⟨t, rfl, upd_same⟩
theorem whole_q {x : Rat} (h : (x.den : Int) = 1) : ((x.num : Int) : Rat) = x := by
  rw [← q_int, ← h]
  exact q_self x
def spGiven (K : PySem.W.Frag) : Sp := fun vs H Q _ => ∃ (p : Addr) (n : Nat) (v : V) (x : Rat), vs = [.ref p, v] ∧ BoxAt H p n ∧ n ≤ 10000 ∧ PQ H v x ∧ Bits 400 x ∧ ∀ u H', SameX p H H' → BoxAt H' p (n + 1) → Qv K H' u x → (∀ a, u = .ref a → H a = none) → Q u H'
theorem sc_w_given : FnScope ["_law_bag_here", "_law_value"] ["_law_bag_here", "_law_value"] (defScope s_w_given) := ⟨rfl, rfl, rfl, by decide +kernel, rfl, by decide +kernel, by decide +kernel⟩
theorem ok_w_given (T : Tx K mg base) : Ok P w K mg base 5 (d_w_given.loc K) ["_law_bag_here", "_law_value"] (spGiven K) := by
  refine mk_ok (k := 4) T.f_w_given sc_w_given (fun _ _ _ _ _ _ us hl => match us, hl with | [_, _], _ => rfl) (fun vs H Q E h => ?_) (fun cdv A outer s H vs Q E hr h => ?_)
  · obtain ⟨p, n, v, x, rfl, _⟩ := h
    rfl
  · obtain ⟨p, n, _, x, rfl, hb, hn, ⟨a, rfl, ha⟩, bx, k⟩ := h
    refine ⟨_, (pss_one (ps_ret (pe_ifExp (PW.pt (pw_and (pt_cmpR op_eq (pe_ix ix_tup (pv 1) pe_int (fun _ _ => rfl)) pe_int (nomark _)) (pw_and1 (pt_cmpR op_eq (ok_call (ok_w_take T) (hr.mono (by decide)) rfl T.g_w_take passL (pa_cons (pv 0) (pa_cons pe_int pa_nil))) pe_int (nomark _))))) (pe_ix ix_tup (pv 1) pe_int (fun _ _ => rfl)) (ok_make T.mkr_Amount (ok_Amount_init_ T) (hr.mono (by decide)) rfl T.g_Amount (passE rfl rfl rfl rfl) (pa_cons (pe_ix ix_tup (pv 1) pe_int (fun _ _ => rfl)) (pa_cons (pe_ix ix_tup (pv 1) pe_int (fun _ _ => rfl)) pa_nil)))))), ?_⟩
    have nap : a ≠ p := by
      rintro rfl
      obtain ⟨_, _, _, e2, _⟩ := hb
      rw [ha] at e2
      cases e2
    have big8 : ((x.den : Int)).natAbs < 2 ^ 8000 := Nat.lt_trans (den_bits bx) (Nat.pow_lt_pow_right (by decide) (by decide))
    have mk : ∀ (H1 : Hp), SameX p H H1 → BoxAt H1 p (n + 1) → ∀ u e, H1 u = none → H1 e = none → Q (.ref u) (upd (upd (upd H1 e (.own u)) u (.ins (cA K) e [])) u (.ins (cA K) e (amtQ (Rat.divInt x.num x.den)))) := by
      intro H1 x1 b1 u e gu ge
      refine k _ _ (x1.trans (sameX_of (made_same gu ge))) (b1.up (made_same gu ge)) (.obj ⟨e, ?_⟩) ?_
      · rw [upd_same, q_self]
      · rintro z hz
        cases hz
        cases q : H u with
        | none => rfl
        | some o =>
          have := x1 u o (by rintro rfl; obtain ⟨_, _, _, e2, _⟩ := b1; rw [gu] at e2; cases e2) q
          rw [gu] at this
          cases this
    refine ⟨_, rfl, a, _, 1, _, rfl, rfl, SqT.of ha, rfl, rfl, _, rfl, ?_⟩
    by_cases h1 : (x.den : Int) = 1
    · rw [decide_eq_true (show V.int (x.den : Int) = V.int 1 by rw [h1])]
      refine iteT ⟨_, rfl, p, _, _, rfl, hb, (by omega), (by decide), (by decide +kernel), fun r H1 c1 c2 x1 b1 => ?_⟩
      refine ⟨rfl, _, rfl, ite2 (fun h2 => ?_) (fun h2 => ?_)⟩
      · refine ⟨_, rfl, a, _, 0, _, rfl, rfl, SqT.of (x1 _ _ nap ha), rfl, k _ _ x1 b1 ?_ (fun _ e => nomatch e)⟩
        have e := Qv.int (K := K) (H := H1) x.num
        rw [whole_q h1] at e
        exact e
      · have ha1 := x1 _ _ nap ha
        exact ⟨_, rfl, a, _, 0, _, rfl, rfl, SqT.of ha1, rfl, _, rfl, a, _, 1, _, rfl, rfl, SqT.of ha1, rfl, fun u e gu ge _ => ⟨u, e, _, _, rfl, upd_same, .int _, .int _, .inl ⟨_, _, rfl, rfl, den_ne x, big8, rfl, mk H1 x1 b1 u e gu ge⟩⟩⟩
    · rw [decide_eq_false (fun z => h1 (V.int.inj z))]
      exact iteF (iteF ⟨_, rfl, a, _, 0, _, rfl, rfl, SqT.of ha, rfl, _, rfl, a, _, 1, _, rfl, rfl, SqT.of ha, rfl, fun u e gu ge _ => ⟨u, e, _, _, rfl, upd_same, .int _, .int _, .inl ⟨_, _, rfl, rfl, den_ne x, big8, rfl, mk H (SameX.refl p H) (hb.mono (by omega)) u e gu ge⟩⟩⟩)
end
end K08

set_option maxHeartbeats 4000000
namespace K08
open PySem PySem.Spec PyProof.Rows L2 AT
section
variable {P : Program} {w : World} {K : PySem.W.Frag} {mg : Str → Option Value} {base : Heap}
theorem LP.up {H H' : Hp} {v : V} {p : Rat × Rat} (h : LP H v p) (s : Same H H') : LP H' v p := h.upT (sameT_of s)
theorem LPs.up {H H' : Hp} {vs : List V} {ps : List (Rat × Rat)} (h : LPs H vs ps) (s : Same H H') : LPs H' vs ps := h.upT (sameT_of s)
theorem LPs.at {H : Hp} {vs : List V} {ps : List (Rat × Rat)} (h : LPs H vs ps) : ∀ {i : Nat} {v : V}, vs[i]? = some v → ∃ p, ps[i]? = some p ∧ LP H v p := by
  induction h with
  | nil => intro i v e; simp at e
  | cons a b ih =>
    intro i v e
    cases i with
    | zero => simp at e; subst e; exact ⟨_, rfl, a⟩
    | succ i => simpa using ih (by simpa using e)
theorem LPs.get {H : Hp} {vs : List V} {ps : List (Rat × Rat)} (h : LPs H vs ps) {i : Nat} {p : Rat × Rat} (e : ps[i]? = some p) : ∃ v, vs[i]? = some v ∧ LP H v p := by
  have hi : i < vs.length := by rw [h.length]; exact (List.getElem?_eq_some_iff.mp e).1
  obtain ⟨q, e2, l⟩ := h.at (List.getElem?_eq_getElem hi)
  rw [e] at e2
  cases e2
  exact ⟨_, List.getElem?_eq_getElem hi, l⟩
/-- the law's points, as a list that stands in the heap -/
structure Lst (H : Hp) (D : Addr) (vs : List V) (ps : List (Rat × Rat)) : Prop where
  at_ : H D = some (.lst vs)
  lps : LPs H vs ps
theorem Lst.up {H H' : Hp} {D : Addr} {vs : List V} {ps : List (Rat × Rat)} (h : Lst H D vs ps) (s : Same H H') : Lst H' D vs ps := ⟨s _ _ h.at_, h.lps.up s⟩
def FinL (ps : List (Rat × Rat)) : Prop := Rising ps ∧ (∀ p ∈ ps, BitsP 64 p) ∧ ps.length ≤ 100
def spLedL : Sp := fun vs H Q _ => ∃ D ws ps v x, vs = [.ref D, v, .int 0, .int 1] ∧ Lst H D ws ps ∧ FinL ps ∧ PQ H v x ∧ Bits 70 x ∧ ∀ u H', Same H H' → PQ H' u (PL.ledR ps x) → Q u H'
theorem sc_w_led : FnScope ["_law_points_here", "_law_value", "_law_here", "_law_there", "_law_one", "_law_other", "_law_part"] ["_law_points_here", "_law_value", "_law_here", "_law_there"] (defScope s_w_led) := ⟨rfl, rfl, rfl, by decide +kernel, rfl, by decide +kernel, by decide +kernel⟩
theorem ok_w_led (T : Tx K mg base) : Ok P w K mg base 4 (d_w_led.loc K) ["_law_points_here", "_law_value", "_law_here", "_law_there"] spLedL := by
  refine mk_ok (k := 3) T.f_w_led sc_w_led (fun _ _ _ _ _ _ us hl => match us, hl with | [_, _, _, _], _ => rfl) (fun vs H Q E h => ?_) (fun cdv A outer s H vs Q E hr h => ?_)
  · obtain ⟨D, ws, ps, v, x, rfl, _⟩ := h
    rfl
  · obtain ⟨D, ws, ps, v, x, rfl, ⟨hD, hp⟩, ⟨hris, hbits, hlen⟩, hv, bx, k⟩ := h
    refine ⟨_, (pss_cons (ps_if (pt_cmpR (show OpR _ _ (rEqE K) from op_eqE hr.units) (pv 0) (pe_lst pa_nil) (nomark _)) (pss_one (ps_ret (pv 1))) pss_nil)
      (pss_cons (ps_if (pt_val (ok_call (ok_w_less T) (hr.mono (by decide)) rfl T.g_w_less passL (pa_cons (pv 1) (pa_cons (pe_ix ix_tup (pe_ix ix_list (pv 0) pe_int (fun _ _ => rfl)) (pv 2) (fun _ _ => rfl)) pa_nil)))) (pss_one (ps_ret (ok_call (ok_w_sum T) (hr.mono (by decide)) rfl T.g_w_sum passL (pa_cons (pe_ix ix_tup (pe_ix ix_list (pv 0) pe_int (fun _ _ => rfl)) (pv 3) (fun _ _ => rfl)) (pa_cons (ok_call (ok_w_rest T) (hr.mono (by decide)) rfl T.g_w_rest passL (pa_cons (pv 1) (pa_cons (pe_ix ix_tup (pe_ix ix_list (pv 0) pe_int (fun _ _ => rfl)) (pv 2) (fun _ _ => rfl)) pa_nil))) pa_nil))))) pss_nil)
      (pss_cons (ps_for (passes_of rfl) rfl (RZ.pi_zipA (by rfl) T.b_zip (pa_cons (pv 0) (pa_cons (pe_slice sl_list (pv 0) (po_some pe_int) po_none) pa_nil))) (pg_tup rfl (pgs_cons (pg_name (i := 4) sc_w_led.nd rfl (Or.inl rfl)) (pgs_cons (pg_name (i := 5) sc_w_led.nd rfl (Or.inl rfl)) pgs_nil))) (pss_one (ps_if (PW.pt (pw_and (pt_not (pt_val (ok_call (ok_w_less T) (hr.mono (by decide)) rfl T.g_w_less passL (pa_cons (pv 1) (pa_cons (pe_ix ix_tup (pv 4) (pv 2) (fun _ _ => rfl)) pa_nil))))) (pw_and1 (pt_val (ok_call (ok_w_less T) (hr.mono (by decide)) rfl T.g_w_less passL (pa_cons (pv 1) (pa_cons (pe_ix ix_tup (pv 5) (pv 2) (fun _ _ => rfl)) pa_nil))))))) (pss_cons (ps_set (i := 6) sc_w_led.nd rfl (Or.inl rfl) (ok_call (ok_w_quotient T) (hr.mono (by decide)) rfl T.g_w_quotient passL (pa_cons (ok_call (ok_w_rest T) (hr.mono (by decide)) rfl T.g_w_rest passL (pa_cons (pv 1) (pa_cons (pe_ix ix_tup (pv 4) (pv 2) (fun _ _ => rfl)) pa_nil))) (pa_cons (ok_call (ok_w_rest T) (hr.mono (by decide)) rfl T.g_w_rest passL (pa_cons (pe_ix ix_tup (pv 5) (pv 2) (fun _ _ => rfl)) (pa_cons (pe_ix ix_tup (pv 4) (pv 2) (fun _ _ => rfl)) pa_nil))) pa_nil))))
      (pss_one (ps_ret (ok_call (ok_w_sum T) (hr.mono (by decide)) rfl T.g_w_sum passL (pa_cons (pe_ix ix_tup (pv 4) (pv 3) (fun _ _ => rfl)) (pa_cons (ok_call (ok_w_product T) (hr.mono (by decide)) rfl T.g_w_product passL (pa_cons (pv 6) (pa_cons (ok_call (ok_w_rest T) (hr.mono (by decide)) rfl T.g_w_rest passL (pa_cons (pe_ix ix_tup (pv 5) (pv 3) (fun _ _ => rfl)) (pa_cons (pe_ix ix_tup (pv 4) (pv 3) (fun _ _ => rfl)) pa_nil))) pa_nil))) pa_nil)))))) pss_nil)))
      (pss_one (ps_ret (ok_call (ok_w_sum T) (hr.mono (by decide)) rfl T.g_w_sum passL (pa_cons (pe_ix ix_tup (pe_ix ix_list (pv 0) (pe_un un_neg pe_int) (fun _ _ => rfl)) (pv 3) (fun _ _ => rfl)) (pa_cons (ok_call (ok_w_rest T) (hr.mono (by decide)) rfl T.g_w_rest passL (pa_cons (pv 1) (pa_cons (pe_ix ix_tup (pe_ix ix_list (pv 0) (pe_un un_neg pe_int) (fun _ _ => rfl)) (pv 2) (fun _ _ => rfl)) pa_nil))) pa_nil)))))))), ?_⟩
    have hl := hp.length
    have up : ∀ {q : Rat} {m : Nat}, Bits m q → m ≤ 400 → Bits 400 q := fun h l => h.mono l
    refine ⟨_, rfl, Nat.zero_le _, fun z gz => ?_⟩
    have s0 := AT.Same.up (o := .lst []) gz
    refine ⟨ws, ⟨D, z, rfl, rfl, SqL.of (s0 _ _ hD), SqL.of upd_same⟩, _, rfl, ?_⟩
    cases ps with
    | nil =>
      cases hp
      exact iteT ⟨_, rfl, k v _ s0 (hv.up s0)⟩
    | cons p r =>
      cases hp with
      | @cons w1 _ ws' _ l1 lr =>
      refine iteF ?_
      have hp0 : LPs H (w1 :: ws') (p :: r) := .cons l1 lr
      obtain ⟨t1, x1, y1, rfl, ht1, hx1, hy1⟩ := l1.up s0
      have hD0 := s0 _ _ hD
      have bp := hbits p (by simp)
      refine ⟨_, rfl, _, rfl, D, _, 0, _, rfl, rfl, SqL.of hD0, atI_nat (j := 0) rfl, _, rfl, t1, _, 0, _, rfl, rfl, SqT.of ht1, rfl, v, x1, x, p.1, rfl, hv.up s0, hx1, up bx (by decide), up bp.1 (by decide), _, rfl, ?_⟩
      by_cases c : x < p.1
      · rw [decide_eq_true c]
        have e : PL.ledR (p :: r) x = p.2 + (x - p.1) := by rw [PL.led_cons, if_pos c]
        refine iteT ⟨_, rfl, D, _, 0, _, rfl, rfl, SqL.of hD0, atI_nat (j := 0) rfl, _, rfl, t1, _, 1, _, rfl, rfl, SqT.of ht1, rfl, _, rfl, _, rfl, D, _, 0, _, rfl, rfl, SqL.of hD0, atI_nat (j := 0) rfl, _, rfl, t1, _, 0, _, rfl, rfl, SqT.of ht1, rfl, v, x1, x, p.1, rfl, hv.up s0, hx1, up bx (by decide), up bp.1 (by decide), fun v2 H2 s2 q2 => ?_⟩
        refine ⟨y1, v2, p.2, x - p.1, rfl, hy1.up s2, q2, up bp.2 (by decide), up (bx.sub bp.1) (by decide), fun v3 H3 s3 q3 => ?_⟩
        have q3 : PQ H3 v3 (p.2 + (x - p.1)) := q3
        rw [← e] at q3
        exact k v3 H3 ((s0.trans s2).trans s3) q3
      · rw [decide_eq_false c]
        have e : PL.ledR (p :: r) x = PL.goQ p r x := by rw [PL.led_cons, if_neg c]
        refine iteF ⟨_, rfl, _, rfl, 1, rfl, D, _, rfl, SqL.of hD0, fun z2 gz2 => ?_⟩
        rw [cut_tail]
        have s1 := AT.Same.up (o := .lst ws') gz2
        have s01 := s0.trans s1
        have hps : LPs H (.ref t1 :: ws') (p :: r) := hp0
        have hn : ws'.length = min (V.ref t1 :: ws').length ws'.length := by rw [List.length_cons]; omega
        refine ⟨D, z2, .ref t1 :: ws', ws', rfl, .inl ⟨SqL.of (s1 _ _ hD0), SqL.of upd_same, for_it (walk_zip hn) (fun i σ' H' => ∃ o4 o5 p' r', σ' = ([some (.ref D), some v, some (.int 0), some (.int 1), o4, o5, none] : L2.St) ∧ Same (upd (upd H z (.lst [])) z2 (.lst ws')) H' ∧ (p :: r).drop i = p' :: r' ∧ ¬ x < p'.1 ∧ PL.ledR (p :: r) x = PL.goQ p' r' x) ⟨_, _, p, r, rfl, Same.refl _, rfl, c, e⟩ (fun i σ' H' hi hP => ?_) (fun i y σ' H' H2 hi hP hY => ?_) (fun σ' H' hP => ?_)⟩⟩
        · obtain ⟨o4, o5, p', r', rfl, sm, _⟩ := hP
          exact ⟨SqL.of (sm _ _ (s1 _ _ hD0)), SqL.of (sm _ _ upd_same)⟩
        · obtain ⟨o4, o5, p', r', rfl, sm, hdr, hc, he⟩ := hP
          obtain ⟨Tp, x0, y0, rfl, hTp, rfl, hx0, hy0⟩ := hY
          have hx0 : (V.ref t1 :: ws')[i]? = some x0 := hx0
          have hy0 : (V.ref t1 :: ws')[i + 1]? = some y0 := hy0
          have s2 := sm.trans (AT.Same.up (o := .tup [x0, y0]) hTp)
          have sH2 := s01.trans s2
          obtain ⟨p1, ep, lp1⟩ := hps.at hx0
          obtain ⟨p2, eq, lp2⟩ := hps.at hy0
          have e1 : p1 = p' := by
            have z := congrArg (fun l => l[0]?) hdr
            simp only [List.getElem?_drop, Nat.add_zero, ep] at z
            simpa using z
          subst e1
          have e2 : ∃ r2, r' = p2 :: r2 := by
            have z := congrArg (fun l => l[1]?) hdr
            simp only [List.getElem?_drop, eq] at z
            cases r' with
            | nil => simp at z
            | cons q r2 => simp at z; exact ⟨r2, by rw [z]⟩
          obtain ⟨r2, rfl⟩ := e2
          obtain ⟨t3, x3, y3, rfl, ht3, hx3, hy3⟩ := lp1.up sH2
          obtain ⟨t4, x4, y4, rfl, ht4, hx4, hy4⟩ := lp2.up sH2
          have b1 := hbits p1 (List.mem_of_getElem? ep)
          have b2 := hbits p2 (List.mem_of_getElem? eq)
          have hv2 := hv.up sH2
          have bw := Rising.step hris ep eq
          refine ⟨Tp, _, rfl, SqT.of upd_same, rfl, _, _, rfl, _, _, rfl, rfl, ?_⟩
          refine ⟨_, rfl, _, rfl, _, rfl, t3, _, 0, _, rfl, rfl, SqT.of ht3, rfl, v, x3, x, p1.1, rfl, hv2, hx3, up bx (by decide), up b1.1 (by decide), _, rfl, ?_⟩
          rw [decide_eq_false hc]
          refine iteT ⟨_, rfl, _, rfl, _, rfl, t4, _, 0, _, rfl, rfl, SqT.of ht4, rfl, v, x4, x, p2.1, rfl, hv2, hx4, up bx (by decide), up b2.1 (by decide), _, rfl, ?_⟩
          by_cases c2 : x < p2.1
          · rw [decide_eq_true c2]
            have eg : PL.goQ p1 (p2 :: r2) x = p1.2 + (x - p1.1) / (p2.1 - p1.1) * (p2.2 - p1.2) := by rw [PL.go_cons, if_pos c2]
            have nz : p2.1 - p1.1 ≠ 0 := by have := bw.1; grind
            refine iteT ⟨_, rfl, _, rfl, _, rfl, t3, _, 0, _, rfl, rfl, SqT.of ht3, rfl, v, x3, x, p1.1, rfl, hv2, hx3, up bx (by decide), up b1.1 (by decide), fun v5 H5 s5 q5 => ?_⟩
            refine ⟨_, rfl, _, rfl, t4, _, 0, _, rfl, rfl, SqT.of (s5 _ _ ht4), rfl, _, rfl, _, rfl, t3, _, 0, _, rfl, rfl, SqT.of (s5 _ _ ht3), rfl, x4, x3, p2.1, p1.1, rfl, hx4.up s5, hx3.up s5, up b2.1 (by decide), up b1.1 (by decide), fun v6 H6 s6 q6 => ?_⟩
            refine ⟨v5, v6, _, _, rfl, q5.up s6, q6, up (bx.sub b1.1) (by decide), up (b2.1.sub b1.1) (by decide), nz, fun v7 H7 s7 q7 => ?_⟩
            have s57 := (s5.trans s6).trans s7
            refine ⟨_, rfl, _, rfl, t3, _, 1, _, rfl, rfl, SqT.of (s57 _ _ ht3), rfl, _, rfl, _, rfl, _, rfl, t4, _, 1, _, rfl, rfl, SqT.of (s57 _ _ ht4), rfl, _, rfl, _, rfl, t3, _, 1, _, rfl, rfl, SqT.of (s57 _ _ ht3), rfl, y4, y3, p2.2, p1.2, rfl, hy4.up s57, hy3.up s57, up b2.2 (by decide), up b1.2 (by decide), fun v8 H8 s8 q8 => ?_⟩
            refine ⟨v7, v8, _, _, rfl, q7.up s8, q8, up ((bx.sub b1.1).div (b2.1.sub b1.1) nz) (by decide), up (b2.2.sub b1.2) (by decide), fun v9 H9 s9 q9 => ?_⟩
            refine ⟨y3, v9, p1.2, _, rfl, ((hy3.up s57).up s8).up s9, q9, up b1.2 (by decide), up (((bx.sub b1.1).div (b2.1.sub b1.1) nz).mul (b2.2.sub b1.2)) (by decide), fun u H10 s10 q10 => ?_⟩
            have q10 : PQ H10 u (p1.2 + (x - p1.1) / (p2.1 - p1.1) * (p2.2 - p1.2)) := q10
            rw [← eg, ← he] at q10
            exact k u H10 ((((sH2.trans s57).trans s8).trans s9).trans s10) q10
          · rw [decide_eq_false c2]
            refine iteF ⟨_, _, p2, r2, rfl, s2, ?_, c2, ?_⟩
            · rw [← List.drop_drop, hdr]
              rfl
            · rw [he, PL.go_cons, if_neg c2]
        · obtain ⟨o4, o5, p', r', rfl, sm, hdr, hc, he⟩ := hP
          have sH := s01.trans sm
          have hl' : ws'.length = r.length := by simpa using hl
          rw [hl'] at hdr
          have hr0 : r' = [] := by
            have z := congrArg List.length hdr
            simp only [List.length_drop, List.length_cons] at z
            exact List.length_eq_zero_iff.mp (by omega)
          subst hr0
          have hlast : (p :: r)[r.length]? = some p' := by
            have z := congrArg (fun l => l[0]?) hdr
            simpa using z
          obtain ⟨vl, ev, lpl⟩ := hps.get hlast
          obtain ⟨t3, x3, y3, rfl, ht3, hx3, hy3⟩ := lpl.up sH
          have b1 := hbits p' (List.mem_of_getElem? hlast)
          have evl : (V.ref t1 :: ws').getLast? = some (.ref t3) := by
            rw [List.getLast?_eq_getElem?, List.length_cons, hl']
            exact ev
          refine ⟨_, rfl, _, rfl, D, _, _, _, rfl, rfl, SqL.of (sm _ _ (s1 _ _ hD0)), at_last evl, _, rfl, t3, _, 1, _, rfl, rfl, SqT.of ht3, rfl, _, rfl, _, rfl, _, rfl, D, _, _, _, rfl, rfl, SqL.of (sm _ _ (s1 _ _ hD0)), at_last evl, _, rfl, t3, _, 0, _, rfl, rfl, SqT.of ht3, rfl, v, x3, x, p'.1, rfl, hv.up sH, hx3, up bx (by decide), up b1.1 (by decide), fun v5 H5 s5 q5 => ?_⟩
          refine ⟨y3, v5, p'.2, _, rfl, hy3.up s5, q5, up b1.2 (by decide), up (bx.sub b1.1) (by decide), fun u H6 s6 q6 => ?_⟩
          have q6 : PQ H6 u (p'.2 + (x - p'.1)) := q6
          rw [← PL.go_nil, ← he] at q6
          exact k u H6 ((sH.trans s5).trans s6) q6
end
end K08

set_option maxHeartbeats 4000000
namespace K08
open PySem PySem.Spec PyProof.Rows L2 AT
/-! ### pairs as data -/
def dq (q : Rat) : PyData := .tuple [.int q.num, .int q.den]
def dp (p : Rat × Rat) : PyData := .tuple [dq p.1, dq p.2]
def dl (ps : List (Rat × Rat)) : PyData := .list (ps.map dp)
theorem eqv_dq (x y : Rat) : PyData.eqv (dq x) (dq y) = decide (x = y) := by
  unfold dq
  simp only [PyData.eqv, PyData.eqvAll, Bool.and_true]
  by_cases c : x = y
  · subst c; simp
  · rw [decide_eq_false c]
    rw [Bool.and_eq_false_iff]
    by_cases n : x.num = y.num
    · right
      simp
      intro d
      exact c (Rat.ext n (by omega))
    · left
      simpa using n
theorem eqv_dp (x y : Rat × Rat) : PyData.eqv (dp x) (dp y) = decide (x = y) := by
  obtain ⟨x1, x2⟩ := x
  obtain ⟨y1, y2⟩ := y
  unfold dp
  simp only [PyData.eqv, PyData.eqvAll, Bool.and_true, eqv_dq]
  by_cases c1 : x1 = y1 <;> by_cases c2 : x2 = y2 <;> simp [c1, c2]
theorem eqv_all : ∀ (xs ys : List (Rat × Rat)), PyData.eqvAll (xs.map dp) (ys.map dp) = decide (xs = ys)
  | [], [] => rfl
  | [], _ :: _ => rfl
  | _ :: _, [] => rfl
  | x :: xs, y :: ys => by
    simp only [List.map_cons, PyData.eqvAll, eqv_dp, eqv_all xs ys]
    by_cases c1 : x = y <;> by_cases c2 : xs = ys <;> simp [c1, c2]
theorem eqv_dl (xs ys : List (Rat × Rat)) : PyData.eqv (dl xs) (dl ys) = decide (xs = ys) := eqv_all xs ys
theorem lay_dp (xs : List (Rat × Rat)) : PyData.canLayAll0 (xs.map dp) = true ∧ PyData.depthAll (xs.map dp) ≤ 2 := by
  induction xs with
  | nil => exact ⟨rfl, by decide⟩
  | cons x xs ih =>
    refine ⟨?_, ?_⟩
    · rw [List.map_cons, PyData.canLayAll0, ih.1]
      rfl
    · have := ih.2
      simp only [List.map_cons, PyData.depthAll]
      have e : (dp x).depth = 2 := rfl
      omega
theorem shaped_dl (xs : List (Rat × Rat)) : SeqAt.shaped (dl xs) = true := by
  have h := lay_dp xs
  unfold SeqAt.shaped dl
  rw [PyData.canLay0, h.1, PyData.depth]
  simp
  omega
section
variable {P : Program} {w : World} {K : PySem.W.Frag} {mg : Str → Option Value} {base : Heap}
theorem PQ.dp {H : Hp} {v : V} {q : Rat} (h : PQ H v q) : Dp K H v (dq q) := by
  obtain ⟨a, rfl, ha⟩ := h
  exact .tup (SqT.of ha) (.cons (.int _) (.cons (.int _) .nil))
theorem LP.dp {H : Hp} {v : V} {p : Rat × Rat} (h : LP H v p) : Dp K H v (dp p) := by
  obtain ⟨t, x, y, rfl, ht, hx, hy⟩ := h
  exact .tup (SqT.of ht) (.cons hx.dp (.cons hy.dp .nil))
theorem LPs.dpl {H : Hp} {vs : List V} {ps : List (Rat × Rat)} (h : LPs H vs ps) : DpAll K H vs (ps.map K08.dp) := by
  induction h with
  | nil => exact .nil
  | cons a b ih => exact .cons a.dp ih
theorem Lst.dp {H : Hp} {D : Addr} {vs : List V} {ps : List (Rat × Rat)} (h : Lst H D vs ps) : Dp K H (.ref D) (dl ps) := .lst (SqL.of h.at_) h.lps.dpl
/-! ### lists of fractions -/
inductive PQs (H : Hp) : List V → List Rat → Prop
  | nil : PQs H [] []
  | cons {v : V} {q : Rat} {vs : List V} {qs : List Rat} : PQ H v q → PQs H vs qs → PQs H (v :: vs) (q :: qs)
theorem PQs.upT {H H' : Hp} {vs : List V} {qs : List Rat} (h : PQs H vs qs) (s : SameT H H') : PQs H' vs qs := by
  induction h with
  | nil => exact .nil
  | cons a b ih => exact .cons (a.upT s) ih
theorem PQs.up {H H' : Hp} {vs : List V} {qs : List Rat} (h : PQs H vs qs) (s : Same H H') : PQs H' vs qs := h.upT (sameT_of s)
theorem PQs.app {H : Hp} {vs ws : List V} {qs rs : List Rat} (h : PQs H vs qs) (g : PQs H ws rs) : PQs H (vs ++ ws) (qs ++ rs) := by
  induction h with
  | nil => exact g
  | cons a b ih => exact .cons a ih
theorem PQs.length {H : Hp} {vs : List V} {qs : List Rat} (h : PQs H vs qs) : vs.length = qs.length := by
  induction h with
  | nil => rfl
  | cons a b ih => simp [ih]
theorem PQs.at {H : Hp} {vs : List V} {qs : List Rat} (h : PQs H vs qs) : ∀ {i : Nat} {v : V}, vs[i]? = some v → ∃ q, qs[i]? = some q ∧ PQ H v q := by
  induction h with
  | nil => intro i v e; simp at e
  | cons a b ih =>
    intro i v e
    cases i with
    | zero => simp at e; subst e; exact ⟨_, rfl, a⟩
    | succ i => simpa using ih (by simpa using e)
theorem PQs.get {H : Hp} {vs : List V} {qs : List Rat} (h : PQs H vs qs) {i : Nat} {q : Rat} (e : qs[i]? = some q) : ∃ v, vs[i]? = some v ∧ PQ H v q := by
  have hi : i < vs.length := by rw [h.length]; exact (List.getElem?_eq_some_iff.mp e).1
  obtain ⟨q', e2, l⟩ := h.at (List.getElem?_eq_getElem hi)
  rw [e] at e2
  cases e2
  exact ⟨_, List.getElem?_eq_getElem hi, l⟩
def spPacL : Sp := fun vs H Q _ => ∃ D ws ps, vs = [.ref D] ∧ Lst H D ws ps ∧ FinL ps ∧ ∀ D2 us H', Same H H' → H D2 = none → H' D2 = some (.lst us) → PQs H' us (steepQ ps) → Q (.ref D2) H'
theorem sc_w_paces : FnScope ["_law_points_here", "_law_found", "_law_one", "_law_other"] ["_law_points_here"] (defScope s_w_paces) := ⟨rfl, rfl, rfl, by decide +kernel, rfl, by decide +kernel, by decide +kernel⟩
theorem ok_w_paces (T : Tx K mg base) : Ok P w K mg base 4 (d_w_paces.loc K) ["_law_points_here"] spPacL := by
  refine mk_ok (k := 3) T.f_w_paces sc_w_paces (fun _ _ _ _ _ _ us hl => match us, hl with | [_], _ => rfl) (fun vs H Q E h => ?_) (fun cdv A outer s H vs Q E hr h => ?_)
  · obtain ⟨D, ws, ps, rfl, _⟩ := h
    rfl
  · obtain ⟨D, ws, ps, rfl, ⟨hD, hp⟩, ⟨hris, hbits, hlen⟩, k⟩ := h
    refine ⟨_, (pss_cons (ps_set (i := 1) sc_w_paces.nd rfl (Or.inl rfl) (pe_lst (pa_cons (pe_tup (pa_cons pe_int (pa_cons pe_int pa_nil))) pa_nil)))
      (pss_cons (ps_for (passes_of rfl) rfl (RZ.pi_zipA (by rfl) T.b_zip (pa_cons (pv 0) (pa_cons (pe_slice sl_list (pv 0) (po_some pe_int) po_none) pa_nil))) (pg_tup rfl (pgs_cons (pg_name (i := 2) sc_w_paces.nd rfl (Or.inl rfl)) (pgs_cons (pg_name (i := 3) sc_w_paces.nd rfl (Or.inl rfl)) pgs_nil))) (pss_one (ps_expr (pe_bm PySem.F.plainAttrs_list PySem.F.slot_list_append PySem.F.type_list_append mt_append (pv 1) (pa_cons (ok_call (ok_w_quotient T) (hr.mono (by decide)) rfl T.g_w_quotient passL (pa_cons (ok_call (ok_w_rest T) (hr.mono (by decide)) rfl T.g_w_rest passL (pa_cons (pe_ix ix_tup (pv 3) pe_int (fun _ _ => rfl)) (pa_cons (pe_ix ix_tup (pv 2) pe_int (fun _ _ => rfl)) pa_nil))) (pa_cons (ok_call (ok_w_rest T) (hr.mono (by decide)) rfl T.g_w_rest passL (pa_cons (pe_ix ix_tup (pv 3) pe_int (fun _ _ => rfl)) (pa_cons (pe_ix ix_tup (pv 2) pe_int (fun _ _ => rfl)) pa_nil))) pa_nil))) pa_nil)))))
      (pss_one (ps_ret (pe_op op_cat (pv 1) (pe_lst (pa_cons (pe_tup (pa_cons pe_int (pa_cons pe_int pa_nil))) pa_nil))))))), ?_⟩
    have hl := hp.length
    have hsz : sizeLine = 16777216 := sizeLine_eq
    have up : ∀ {q : Rat} {m : Nat}, Bits m q → m ≤ 400 → Bits 400 q := fun h l => h.mono l
    refine ⟨(by show 2 ≤ sizeLine; decide), fun t1 g1 => ⟨(by show 1 ≤ sizeLine; decide), fun F gF => ?_⟩⟩
    have s1 := (AT.Same.up (o := .tup [.int 1, .int 1]) g1)
    have s2 := AT.Same.up (o := .lst [.ref t1]) gF
    have s12 := s1.trans s2
    have hFn := none_of s1 gF
    have h1 : PQs (upd (upd H t1 (.tup [.int 1, .int 1])) F (.lst [.ref t1])) [.ref t1] [1] := .cons ⟨t1, rfl, s2 _ _ upd_same⟩ .nil
    have hF : upd (upd H t1 (.tup [.int 1, .int 1])) F (.lst [.ref t1]) F = some (.lst [.ref t1]) := upd_same
    generalize upd (upd H t1 (.tup [.int 1, .int 1])) F (.lst [.ref t1]) = HA at s12 h1 hF ⊢
    refine ⟨_, rfl, _, rfl, 1, rfl, D, _, rfl, SqL.of (s12 _ _ hD), fun z gz => ?_⟩
    rw [cut_tail]
    have s3 := AT.Same.up (o := .lst ws.tail) gz
    have hn : ws.length - 1 = min ws.length ws.tail.length := by rw [List.length_tail]; omega
    have sl : (slopes ps).length = ws.length - 1 := by
      unfold slopes
      rw [List.length_zipWith, List.length_tail, hl]
      omega
    have nzF : z ≠ F := by rintro rfl; rw [hF] at gz; cases gz
    have fin : ∀ (H' : Hp) (us : List V), Same H H' → H' F = some (.lst us) → PQs H' us ([1] ++ slopes ps) → ∀ t2, H' t2 = none → ∀ e, upd H' t2 (.tup [.int 1, .int 1]) e = none → ∀ r, upd (upd H' t2 (.tup [.int 1, .int 1])) e (.lst [.ref t2]) r = none → Q (.ref r) (upd (upd (upd H' t2 (.tup [.int 1, .int 1])) e (.lst [.ref t2])) r (.lst (us ++ [.ref t2]))) := by
      intro H' us sm hF' hq t2 gt2 e ge r gr
      have sa := AT.Same.up (o := .tup [.int 1, .int 1]) gt2
      have sb := AT.Same.up (o := .lst [.ref t2]) ge
      have sc := AT.Same.up (o := .lst (us ++ [.ref t2])) gr
      refine k r _ _ (((sm.trans sa).trans sb).trans sc) (none_of ((sm.trans sa).trans sb) gr) upd_same ?_
      exact (hq.up ((sa.trans sb).trans sc)).app (.cons ⟨t2, rfl, (sb.trans sc) _ _ upd_same⟩ .nil)
    refine ⟨D, z, ws, ws.tail, rfl, .inl ⟨SqL.of (s3 _ _ (s12 _ _ hD)), SqL.of upd_same, for_it (walk_zip hn) (fun i σ' H' => ∃ o2 o3 us, σ' = ([some (.ref D), some (.ref F), o2, o3] : L2.St) ∧ Same H H' ∧ H' z = some (.lst ws.tail) ∧ H' F = some (.lst us) ∧ PQs H' us ([1] ++ (slopes ps).take i)) ⟨_, _, _, rfl, s12.trans s3, upd_same, s3 _ _ hF, h1.up s3⟩ (fun i σ' H' hi hP => ?_) (fun i y σ' H' H2 hi hP hY => ?_) (fun σ' H' hP => ?_)⟩⟩
    · obtain ⟨_, _, us, rfl, sm, hz, _, _⟩ := hP
      exact ⟨SqL.of (sm _ _ hD), SqL.of hz⟩
    · obtain ⟨o2, o3, us, rfl, sm, hz, hF', hq⟩ := hP
      obtain ⟨Tp, x0, y0, rfl, hTp, rfl, hx0, hy0⟩ := hY
      have hx0 : ws[i]? = some x0 := hx0
      have hy0 : ws[i + 1]? = some y0 := by
        have z : ws.tail[i]? = some y0 := hy0
        rw [List.getElem?_tail] at z
        exact z
      have sT := AT.Same.up (o := .tup [x0, y0]) hTp
      have sH2 := sm.trans sT
      obtain ⟨p1, ep, lp1⟩ := hp.at hx0
      obtain ⟨p2, eq, lp2⟩ := hp.at hy0
      have bw := Rising.step hris ep eq
      have b1 := hbits p1 (List.mem_of_getElem? ep)
      have b2 := hbits p2 (List.mem_of_getElem? eq)
      obtain ⟨t3, x3, y3, rfl, ht3, hx3, hy3⟩ := lp1.up sH2
      obtain ⟨t4, x4, y4, rfl, ht4, hx4, hy4⟩ := lp2.up sH2
      have nz : p2.1 - p1.1 ≠ 0 := by have := bw.1; grind
      have lu := hq.length
      simp only [List.length_append, List.length_take, List.length_cons, List.length_nil] at lu
      refine ⟨Tp, _, rfl, SqT.of upd_same, rfl, _, _, rfl, _, _, rfl, rfl, ?_⟩
      refine ⟨_, rfl, tyV_lst (sT _ _ hF'), _, rfl, t4, _, 1, _, rfl, rfl, SqT.of ht4, rfl, _, rfl, t3, _, 1, _, rfl, rfl, SqT.of ht3, rfl, y4, y3, p2.2, p1.2, rfl, hy4, hy3, up b2.2 (by decide), up b1.2 (by decide), fun v5 H5 s5 q5 => ?_⟩
      refine ⟨_, rfl, t4, _, 0, _, rfl, rfl, SqT.of (s5 _ _ ht4), rfl, _, rfl, t3, _, 0, _, rfl, rfl, SqT.of (s5 _ _ ht3), rfl, x4, x3, p2.1, p1.1, rfl, hx4.up s5, hx3.up s5, up b2.1 (by decide), up b1.1 (by decide), fun v6 H6 s6 q6 => ?_⟩
      refine ⟨v5, v6, _, _, rfl, q5.up s6, q6, up (b2.2.sub b1.2) (by decide), up (b2.1.sub b1.1) (by decide), nz, fun v7 H7 s7 q7 => ?_⟩
      have s57 := (sT.trans s5).trans (s6.trans s7)
      have hF7 := s57 _ _ hF'
      have nzF' : z ≠ F := nzF
      refine ⟨F, us, _, rfl, rfl, hF7, (by omega), _, _, us ++ [v7], rfl, AT.Same.new (sm.trans s57) hFn, (by rw [upd_ne nzF]; exact s57 _ _ hz), upd_same, ?_⟩
      rw [List.take_add_one, slopes_at ep eq, ← List.append_assoc]
      exact ((hq.up s57).app (.cons q7 .nil)).upT (sameT_set hF7)
    · obtain ⟨o2, o3, us, rfl, sm, hz, hF', hq⟩ := hP
      rw [← sl, List.take_length] at hq
      refine ⟨_, rfl, (by show 2 ≤ sizeLine; decide), fun t2 gt2 => ⟨(by show 1 ≤ sizeLine; decide), fun e ge => ?_⟩⟩
      have lu := hq.length
      simp only [List.length_append, List.length_cons, List.length_nil, sl] at lu
      refine ⟨F, e, us, [.ref t2], rfl, rfl, AT.Same.up ge _ _ (AT.Same.up gt2 _ _ hF'), upd_same, (by simp only [List.length_cons, List.length_nil]; omega), fun r gr => fin H' us sm hF' hq t2 gt2 e ge r gr⟩
end
end K08

set_option maxHeartbeats 4000000
namespace K08
open PySem PySem.Spec PyProof.Rows L2 AT
section
variable {P : Program} {w : World} {K : PySem.W.Frag} {mg : Str → Option Value} {base : Heap}
def spBndL : Sp := fun vs H Q _ => ∃ D ws ps, vs = [.ref D] ∧ Lst H D ws ps ∧ FinL ps ∧ ∀ D2 us H', Same H H' → H D2 = none → Lst H' D2 us (PL.bendF ps) → Q (.ref D2) H'
theorem sc_w_bends : FnScope ["_law_points_here", "_law_steeps", "_law_at", "_law_point", "_law_found"] ["_law_points_here"] (defScope s_w_bends) := ⟨rfl, rfl, rfl, by decide +kernel, rfl, by decide +kernel, by decide +kernel⟩
theorem ok_w_bends (T : Tx K mg base) : Ok P w K mg base 6 (d_w_bends.loc K) ["_law_points_here"] spBndL := by
  refine mk_ok (k := 5) T.f_w_bends sc_w_bends (fun _ _ _ _ _ _ us hl => match us, hl with | [_], _ => rfl) (fun vs H Q E h => ?_) (fun cdv A outer s H vs Q E hr h => ?_)
  · obtain ⟨D, ws, ps, rfl, _⟩ := h
    rfl
  · obtain ⟨a, ws, ps, rfl, hLst, hF, k⟩ := h
    refine ⟨_, (pss_cons (ps_set (i := 1) sc_w_bends.nd rfl (Or.inr rfl) (ok_call (ok_w_paces T) (hr.mono (by decide)) rfl T.g_w_paces passL (pa_cons (pv 0) pa_nil)))
      (pss_cons (ps_setLc (i := 4) (own := [("_law_at", 2), ("_law_point", 3)]) (g := (gTup K 2 (gCons (gName 2) (gCons (gName 3) gNil)))) (by rfl) sc_w_bends.nd rfl rfl (sw_true rfl rfl rfl (by decide +kernel)) (pi_enumA (by rfl) T.b_enumerate (pa_cons (pv 0) pa_nil)) (blkOk_by (own := [("_law_at", 2), ("_law_point", 3)]) (N := ["_law_points_here", "_law_steeps", "_law_at", "_law_point", "_law_found"]) (sc := defScope s_w_bends) (by decide +kernel)) (fun _ _ _ _ _ => (pg_tup rfl (pgs_cons (pg_name (i := 2) sc_w_bends.nd rfl (Or.inl rfl)) (pgs_cons (pg_name (i := 3) sc_w_bends.nd rfl (Or.inl rfl)) pgs_nil)))) (fun _ _ _ _ _ => (pts_one (pt_cmpR (show OpR _ _ (rNeD K) from (op_neD hr.units)) (pe_ix (show IxR _ (rIxL K) from ix_list) (pv 1) (pv 2) (fun _ _ => rfl)) (pe_ix (show IxR _ (rIxL K) from ix_list) (pv 1) (pe_op op_add (pv 2) pe_int) (fun _ _ => rfl)) (nomark _)))) (fun _ _ _ _ _ => (pv 3)))
      (pss_one (ps_ret (pe_ifExp (pt_cmpR (show OpR _ _ (rNeE K) from op_neE hr.units) (pv 4) (pe_lst pa_nil) (nomark _)) (pv 4) (pe_lst (pa_cons (pe_tup (pa_cons (pe_tup (pa_cons pe_int (pa_cons pe_int pa_nil))) (pa_cons (ok_call (ok_w_led T) (hr.mono (by decide)) rfl T.g_w_led passL (pa_cons (pv 0) (pa_cons (pe_tup (pa_cons pe_int (pa_cons pe_int pa_nil))) (pa_cons pe_int (pa_cons pe_int pa_nil))))) pa_nil))) pa_nil))))))), ?_⟩
    obtain ⟨ha, hp⟩ := id hLst
    obtain ⟨hris, hbits, hlen⟩ := id hF
    have hl := hp.length
    have hsz : sizeLine = 16777216 := sizeLine_eq
    refine ⟨_, rfl, a, ws, ps, rfl, hLst, hF, fun S ss H1 s1 hS hS1 hq => ?_⟩
    have ha1 := s1 _ _ ha
    refine ⟨_, rfl, a, ws, rfl, .inl (SqL.of ha1), fun J hJ D hD => ?_⟩
    obtain ⟨G, wk, hG⟩ := en_walk hJ
    have hHa : ∀ H', Same H1 H' → H' a = H1 a := fun H' s => by rw [s _ _ ha1, ha1]
    refine lc_it wk (fun i H' => ∃ us, Same H1 H' ∧ H' D = some (.lst us) ∧ LPs H' us (bendAt ps i)) ⟨[], AT.Same.up hD, upd_same, .nil⟩ (fun i H' hi ⟨us, sm, _⟩ => hG _ (hHa _ sm)) (fun i z H' H2 hi ⟨us, sm, hl1, hu⟩ hY => ?_) (fun H' ⟨us, sm, hl1, hu⟩ => ?_)
    · obtain ⟨Tp, x0, y0, rfl, hTp, rfl, e1, hy0⟩ := hY
      cases e1
      have hy0 : ws[i]? = some y0 := hy0
      have s2 := AT.Same.up (o := .tup [.int (i : Nat), y0]) hTp
      obtain ⟨p1, ep, pt1⟩ := hp.at hy0
      have np : ps ≠ [] := by rintro rfl; simp at ep
      have li : i < ps.length := (List.getElem?_eq_some_iff.mp ep).1
      have sl := steep_len np
      have ex : (steepQ ps)[i]? = some (steepQ ps)[i] := List.getElem?_eq_getElem (by omega)
      have ey : (steepQ ps)[i + 1]? = some (steepQ ps)[i + 1] := List.getElem?_eq_getElem (by omega)
      generalize (steepQ ps)[i] = x at ex
      generalize (steepQ ps)[i + 1] = y at ey
      obtain ⟨xa, exa, hxa⟩ := hq.get ex
      obtain ⟨ya, eya, hya⟩ := hq.get ey
      have s12 := sm.trans s2
      refine ⟨Tp, _, rfl, SqT.of upd_same, rfl, _, _, rfl, _, _, rfl, rfl, rfl, ?_⟩
      refine ⟨_, rfl, _, rfl, S, ss, _, _, rfl, rfl, SqL.of (s12 _ _ hS1), atI_nat exa, _, rfl, _, rfl, _, _, rfl, rfl, S, ss, _, _, rfl, rfl, SqL.of (s12 _ _ hS1), (by rw [show ((i : Nat) + 1 : Int) = ((i + 1 : Nat) : Int) by omega]; exact atI_nat eya), dq x, dq y, (hxa.up s12).dp, (hya.up s12).dp, rfl, rfl, _, rfl, ?_⟩
      rw [eqv_dq]
      have st := bend_step ps ep ex ey
      have lb := bend_len ps i
      have lu := hu.length
      by_cases c : x = y
      · rw [decide_eq_true c]
        rw [if_pos c, List.append_nil] at st
        refine iteF ⟨us, s12, s2 _ _ hl1, ?_⟩
        rw [st]
        exact hu.up s2
      · rw [decide_eq_false c]
        rw [if_neg c] at st
        refine iteT ⟨_, rfl, us, s2 _ _ hl1, (by omega), us ++ [y0], AT.Same.new s12 hD, upd_same, ?_⟩
        rw [st]
        exact ((hu.up s2).app ((pt1.up s1).up s12)).upT (sameT_set (s2 _ _ hl1))
    · rw [hl, bend_at] at hu
      refine ⟨_, rfl, Nat.zero_le _, fun z gz => ?_⟩
      have sz := AT.Same.up (o := .lst []) gz
      refine ⟨us, ⟨D, z, rfl, rfl, SqL.of (sz _ _ hl1), SqL.of upd_same⟩, _, rfl, ?_⟩
      have lu := hu.length
      cases hw : us.isEmpty with
      | false =>
        have ne : PL.bendR 1 ps ≠ [] := by
          intro z
          rw [z] at hu
          cases hu
          simp at hw
        refine iteT ⟨_, rfl, k D us _ ((s1.trans sm).trans sz) (none_of s1 hD) ⟨sz _ _ hl1, ?_⟩⟩
        unfold PL.bendF
        rw [if_neg ne]
        exact hu.up sz
      | true =>
        have e0 : us = [] := by simpa using hw
        have e1 : PL.bendR 1 ps = [] := List.length_eq_zero_iff.mp (by rw [← lu, e0]; rfl)
        refine iteF ?_
        refine ⟨(by show 2 ≤ sizeLine; decide), fun t1 g1 => ⟨_, rfl, (by show 2 ≤ sizeLine; decide), fun t2 g2 => ?_⟩⟩
        have sA := AT.Same.up (o := .tup [.int 0, .int 1]) g1
        have sB := AT.Same.up (o := .tup [.int 0, .int 1]) g2
        have sAll := ((s1.trans sm).trans sz).trans (sA.trans sB)
        have q0 : PQ (upd (upd (upd H' z (.lst [])) t1 (.tup [.int 0, .int 1])) t2 (.tup [.int 0, .int 1])) (.ref t2) 0 := ⟨t2, rfl, upd_same⟩
        have q1 : PQ (upd (upd (upd H' z (.lst [])) t1 (.tup [.int 0, .int 1])) t2 (.tup [.int 0, .int 1])) (.ref t1) 0 := ⟨t1, rfl, sB _ _ upd_same⟩
        refine ⟨a, ws, ps, _, 0, rfl, hLst.up sAll, hF, q0, ⟨by decide +kernel, by decide +kernel⟩, fun r H3 s3 hR => ?_⟩
        refine ⟨(by show 2 ≤ sizeLine; decide), fun t ht => ⟨(by show 1 ≤ sizeLine; decide), fun L hL => ?_⟩⟩
        have sC := AT.Same.up (o := .tup [.ref t1, r]) ht
        have sD := AT.Same.up (o := .lst [.ref t]) hL
        refine k L [.ref t] _ ((sAll.trans s3).trans (sC.trans sD)) (none_of ((sAll.trans s3).trans sC) hL) ⟨upd_same, ?_⟩
        unfold PL.bendF
        rw [if_pos e1]
        exact .cons ⟨t, .ref t1, r, rfl, sD _ _ upd_same, (q1.up s3).up (sC.trans sD), hR.up (sC.trans sD)⟩ .nil
end
end K08

set_option maxHeartbeats 4000000
namespace K08
open PySem PySem.Spec PyProof.Rows L2 AT
section
variable {P : Program} {w : World} {K : PySem.W.Frag} {mg : Str → Option Value} {base : Heap}
def spPrs (K : PySem.W.Frag) : Sp := fun vs H Q _ => ∃ D us ps, vs = [.ref D] ∧ H D = some (.lst us) ∧ Pts K H us ps ∧ ps.length < 1000 ∧ ∀ D2 ws H', Same H H' → H D2 = none → Lst H' D2 ws ps → Q (.ref D2) H'
theorem sc_w_pairs : FnScope ["_law_points_here", "_law_point", "_law_one", "_law_other"] ["_law_points_here"] (defScope s_w_pairs) := ⟨rfl, rfl, rfl, by decide +kernel, rfl, by decide +kernel, by decide +kernel⟩
theorem ok_w_pairs (T : Tx K mg base) : Ok P w K mg base 4 (d_w_pairs.loc K) ["_law_points_here"] (spPrs K) := by
  refine mk_ok (k := 3) T.f_w_pairs sc_w_pairs (fun _ _ _ _ _ _ us hl => match us, hl with | [_], _ => rfl) (fun vs H Q E h => ?_) (fun cdv A outer s H vs Q E hr h => ?_)
  · obtain ⟨D, us, ps, rfl, _⟩ := h
    rfl
  · obtain ⟨D, us, ps, rfl, hD, hp, hlen, k⟩ := h
    refine ⟨_, (pss_cons (ps_if (pt_cmpR (show OpR _ _ (rNeE K) from op_neE hr.units) (pe_lc (own := [("_law_point", 1)]) (g := (gName 1)) (by rfl) sc_w_pairs.nd (pi_list (pv 0)) (blkOk_by (own := [("_law_point", 1)]) (N := ["_law_points_here", "_law_point", "_law_one", "_law_other"]) (sc := defScope s_w_pairs) (by decide +kernel)) (fun _ _ _ _ _ => (pg_name (i := 1) sc_w_pairs.nd rfl (Or.inl rfl))) (fun _ _ _ _ _ => (pts_one (pt_not (pt_val (pe_callB (show CallR _ (.builtin "isinstance") (rIsi K) from call_isi) (by rfl) T.b_isinstance (by decide +kernel) (pa_cons (pv 1) (pa_cons (pe_bltn (v := .ty "tuple") rfl T.b_tuple (by decide +kernel) rfl) pa_nil))))))) (fun _ _ _ _ _ => (pv 1))) (pe_lst pa_nil) (nomark _)) (pss_one (ps_ret pe_non)) pss_nil)
      (pss_one (ps_ret (pe_lc (own := [("_law_one", 2), ("_law_other", 3)]) (g := (gTup K 2 (gCons (gName 2) (gCons (gName 3) gNil)))) (tt := tYes) (by rfl) sc_w_pairs.nd (pi_list (pv 0)) (blkOk_by (own := [("_law_one", 2), ("_law_other", 3)]) (N := ["_law_points_here", "_law_point", "_law_one", "_law_other"]) (sc := defScope s_w_pairs) (by decide +kernel)) (fun _ _ _ _ _ => (pg_tup rfl (pgs_cons (pg_name (i := 2) sc_w_pairs.nd rfl (Or.inl rfl)) (pgs_cons (pg_name (i := 3) sc_w_pairs.nd rfl (Or.inl rfl)) pgs_nil)))) (fun _ _ _ _ _ => pts_nil) (fun _ _ _ _ _ => (pe_tup (pa_cons (ok_call (ok_w_pair T) (hr.mono (by decide)) rfl T.g_w_pair passL (pa_cons (pv 2) pa_nil)) (pa_cons (ok_call (ok_w_pair T) (hr.mono (by decide)) rfl T.g_w_pair passL (pa_cons (pv 3) pa_nil)) pa_nil)))))))), ?_⟩
    have hl := hp.length
    have hsz : sizeLine = 16777216 := sizeLine_eq
    refine ⟨_, rfl, D, rfl, ⟨_, SqL.of hD⟩, fun E1 gE => ?_⟩
    refine lc_list (K := K) (a := D) (xs := us) (fun j Hj => Same H Hj ∧ Hj E1 = some (.lst [])) ⟨AT.Same.up gE, upd_same⟩ (fun j Hj _ h => SqL.of (h.1 _ _ hD)) (fun j x Hj hx hP => ?_) (fun Hj hP => ?_)
    · obtain ⟨q, eq, t, x1, y1, rfl, ht, _, _⟩ := hp.at hx
      obtain ⟨sj, hE⟩ := hP
      refine ⟨rfl, ?_⟩
      refine ⟨_, rfl, _, _, _, _, _, rfl, .ty _, .base (.tup (sj _ _ ht)), kit_ty (r := true) (by decide +kernel), _, rfl, iteF ⟨sj, hE⟩⟩
    · obtain ⟨sj, hE⟩ := hP
      refine ⟨Nat.zero_le _, fun z gz => ?_⟩
      have sz := AT.Same.up (o := .lst []) gz
      refine ⟨[], ⟨E1, z, rfl, rfl, SqL.of (sz _ _ hE), SqL.of upd_same⟩, _, rfl, iteF ?_⟩
      have s1 := sj.trans sz
      refine ⟨_, rfl, D, rfl, ⟨_, SqL.of (s1 _ _ hD)⟩, fun D2 gD2 => ?_⟩
      refine lc_list (K := K) (a := D) (xs := us) (fun j Hj => Same H Hj ∧ ∃ acc, Hj D2 = some (.lst acc) ∧ LPs Hj acc (ps.take j)) ⟨s1.trans (AT.Same.up gD2), [], upd_same, .nil⟩ (fun j Hj _ h => SqL.of (h.1 _ _ hD)) (fun j x Hj hx hP => ?_) (fun Hj hP => ?_)
      · obtain ⟨q, eq, t, x1, y1, rfl, ht, hx1, hy1⟩ := hp.at hx
        obtain ⟨sj, acc, hacc, hlp⟩ := hP
        refine ⟨t, _, rfl, SqT.of (sj _ _ ht), rfl, _, _, rfl, _, _, rfl, rfl, rfl, ?_⟩
        dsimp only [tYes]
        refine iteT ?_
        refine ⟨_, rfl, x1, q.1, rfl, hx1.up sj, fun v5 H5 s5 q5 => ?_⟩
        refine ⟨_, rfl, y1, q.2, rfl, (hy1.up sj).up s5, fun v6 H6 s6 q6 => ?_⟩
        refine ⟨(by show 2 ≤ sizeLine; decide), fun tt gt => ?_⟩
        have sT := AT.Same.up (o := .tup [v5, v6]) gt
        have s56 := (s5.trans s6).trans sT
        have lu := hlp.length
        rw [List.length_take] at lu
        refine ⟨acc, s56 _ _ hacc, (by omega), AT.Same.new (sj.trans s56) (none_of s1 gD2), acc ++ [.ref tt], upd_same, ?_⟩
        rw [List.take_add_one, eq]
        exact ((hlp.up s56).app ⟨tt, v5, v6, rfl, upd_same, (q5.up s6).up sT, q6.up sT⟩).upT (sameT_set (s56 _ _ hacc))
      · obtain ⟨sj, acc, hacc, hlp⟩ := hP
        rw [hl, List.take_length] at hlp
        exact k D2 acc Hj sj (none_of s1 gD2) ⟨hacc, hlp⟩
end
end K08

set_option maxHeartbeats 4000000
namespace K08
open PySem PySem.Spec PyProof.Rows L2 AT
theorem Fine.bits24 {m : Nat} {x : Rat} (h : Fine m x) (hm : m ≤ 100000) : Bits 24 x := by
  obtain ⟨k, rfl, hk⟩ := h
  rw [fine_eq]
  refine bits_of (by decide) ?_ (by decide)
  have : (2 : Nat) ^ 24 = 16777216 := by decide
  omega
theorem pair12 : (.tup [.int 1, .int 12] : HO) = pairQ (mkRat 1 12) := by
  unfold pairQ
  rw [show (mkRat 1 12).num = 1 by decide +kernel, show (mkRat 1 12).den = 12 by decide +kernel]
  rfl
theorem pair9 : (.tup [.int (-9), .int 1] : HO) = pairQ (-9) := by
  unfold pairQ
  rw [show (-9 : Rat).num = -9 by decide +kernel, show (-9 : Rat).den = 1 by decide +kernel]
  rfl
theorem small9 : Bits 10 (-9) := ⟨by decide +kernel, by decide +kernel⟩
theorem small12 : Bits 10 (mkRat 1 12) := ⟨by decide +kernel, by decide +kernel⟩
theorem small2 : Bits 10 (2 : Rat) := ⟨by decide +kernel, by decide +kernel⟩
section
variable {P : Program} {w : World} {K : PySem.W.Frag} {mg : Str → Option Value} {base : Heap}
def FinS (ps : List (Rat × Rat)) : Prop := Rising ps ∧ (∀ p ∈ ps, BitsP 24 p) ∧ ps.length ≤ 10
theorem FinS.l {ps : List (Rat × Rat)} (h : FinS ps) : FinL ps := ⟨h.1, fun p hp => ⟨(h.2.1 p hp).1.mono (by decide), (h.2.1 p hp).2.mono (by decide)⟩, by have := h.2.2; omega⟩
def spAskd : Sp := fun vs H Q _ => ∃ (p : Addr) (n : Nat) (D : Addr) (ws : List V) (ps : List (Rat × Rat)), vs = [.ref p, .ref D] ∧ BoxAt H p n ∧ n ≤ 9000 ∧ Lst H D ws ps ∧ FinS ps ∧ D ≠ p ∧
  ∀ F us qs H', SameX p H H' → H F = none → BoxAt H' p (n + 10) → H' F = some (.lst us) → PQs H' us qs → (∀ q ∈ qs, Bits 70 q) → qs.length ≤ 100 → Q (.ref F) H'
theorem sc_w_asked : FnScope ["_law_bag_here", "_law_points_here", "_law_beat", "_law_second", "_law_turn", "_law_found", "_law_one", "_law_other"] ["_law_bag_here", "_law_points_here"] (defScope s_w_asked) := ⟨rfl, rfl, rfl, by decide +kernel, rfl, by decide +kernel, by decide +kernel⟩
theorem ok_w_asked (T : Tx K mg base) : Ok P w K mg base 4 (d_w_asked.loc K) ["_law_bag_here", "_law_points_here"] spAskd := by
  refine mk_ok (k := 3) T.f_w_asked sc_w_asked (fun _ _ _ _ _ _ us hl => match us, hl with | [_, _], _ => rfl) (fun vs H Q E h => ?_) (fun cdv A outer s H vs Q E hr h => ?_)
  · obtain ⟨p, n, D, ws, ps, rfl, _⟩ := h
    rfl
  · obtain ⟨p, n, D, ws, ps, rfl, hb, hn, ⟨hD, hp⟩, ⟨hris, hbits, hlen⟩, hDp, k⟩ := h
    refine ⟨_, (pss_cons (ps_set (i := 5) sc_w_asked.nd rfl (Or.inl rfl) (pe_op op_cat (pe_op op_cat (pe_lc (own := [("_law_beat", 2), ("_law_second", 3)]) (g := (gTup K 2 (gCons (gName 2) (gCons (gName 3) gNil)))) (tt := tYes) (by rfl) sc_w_asked.nd (pi_list (pv 1)) (blkOk_by (own := [("_law_beat", 2), ("_law_second", 3)]) (N := ["_law_bag_here", "_law_points_here", "_law_beat", "_law_second", "_law_turn", "_law_found", "_law_one", "_law_other"]) (sc := defScope s_w_asked) (by decide +kernel)) (fun _ _ _ _ _ => (pg_tup rfl (pgs_cons (pg_name (i := 2) sc_w_asked.nd rfl (Or.inl rfl)) (pgs_cons (pg_name (i := 3) sc_w_asked.nd rfl (Or.inl rfl)) pgs_nil)))) (fun _ _ _ _ _ => pts_nil) (fun _ _ _ _ _ => (pv 2))) (pe_lc (own := [("_law_turn", 4)]) (g := (gName 4)) (tt := tYes) (by rfl) sc_w_asked.nd (pi_range1 (by rfl) T.b_range (pa_cons pe_int pa_nil)) (blkOk_by (own := [("_law_turn", 4)]) (N := ["_law_bag_here", "_law_points_here", "_law_beat", "_law_second", "_law_turn", "_law_found", "_law_one", "_law_other"]) (sc := defScope s_w_asked) (by decide +kernel)) (fun _ _ _ _ _ => (pg_name (i := 4) sc_w_asked.nd rfl (Or.inl rfl))) (fun _ _ _ _ _ => pts_nil) (fun _ _ _ _ _ => (ok_call (ok_w_fraction T) (hr.mono (by decide)) rfl T.g_w_fraction passL (pa_cons (pv 0) pa_nil))))) (pe_lst (pa_cons (pe_tup (pa_cons pe_int (pa_cons pe_int pa_nil))) pa_nil))))
      (pss_cons (ps_for (passes_of rfl) rfl (RZ.pi_zipA (by rfl) T.b_zip (pa_cons (pv 1) (pa_cons (pe_slice sl_list (pv 1) (po_some pe_int) po_none) pa_nil))) (pg_tup rfl (pgs_cons (pg_name (i := 6) sc_w_asked.nd rfl (Or.inl rfl)) (pgs_cons (pg_name (i := 7) sc_w_asked.nd rfl (Or.inl rfl)) pgs_nil))) (pss_one (ps_expr (pe_bm PySem.F.plainAttrs_list PySem.F.slot_list_append PySem.F.type_list_append mt_append (pv 5) (pa_cons (ok_call (ok_w_quotient T) (hr.mono (by decide)) rfl T.g_w_quotient passL (pa_cons (ok_call (ok_w_sum T) (hr.mono (by decide)) rfl T.g_w_sum passL (pa_cons (pe_ix ix_tup (pv 6) pe_int (fun _ _ => rfl)) (pa_cons (pe_ix ix_tup (pv 7) pe_int (fun _ _ => rfl)) pa_nil))) (pa_cons (pe_tup (pa_cons pe_int (pa_cons pe_int pa_nil))) pa_nil))) pa_nil)))))
      (pss_cons (ps_for (passes_of rfl) rfl (pi_list (pe_op op_cat (pe_slice sl_list (pv 1) po_none (po_some pe_int)) (pe_slice sl_list (pv 1) (po_some (pe_un un_neg pe_int)) po_none))) (pg_tup rfl (pgs_cons (pg_name (i := 2) sc_w_asked.nd rfl (Or.inl rfl)) (pgs_cons (pg_name (i := 3) sc_w_asked.nd rfl (Or.inl rfl)) pgs_nil))) (pss_one (ps_expr (pe_bm PySem.F.plainAttrs_list PySem.F.slot_list_extend PySem.F.type_list_extend mt_extend (pv 5) (pa_cons (pe_lst (pa_cons (ok_call (ok_w_sum T) (hr.mono (by decide)) rfl T.g_w_sum passL (pa_cons (pv 2) (pa_cons (pe_tup (pa_cons pe_int (pa_cons pe_int pa_nil))) pa_nil))) (pa_cons (ok_call (ok_w_sum T) (hr.mono (by decide)) rfl T.g_w_sum passL (pa_cons (pv 2) (pa_cons (pe_tup (pa_cons (pe_un un_neg pe_int) (pa_cons pe_int pa_nil))) pa_nil))) pa_nil))) pa_nil)))))
      (pss_one (ps_ret (pv 5)))))), ?_⟩
    have hl := hp.length
    have hsz : sizeLine = 16777216 := sizeLine_eq
    refine ⟨_, rfl, D, rfl, ⟨_, SqL.of hD⟩, fun E1 gE => ?_⟩
    refine lc_list (K := K) (a := D) (xs := ws) (fun j Hj => Same H Hj ∧ ∃ acc, Hj E1 = some (.lst acc) ∧ PQs Hj acc ((ps.take j).map (·.1))) ⟨AT.Same.up gE, [], upd_same, .nil⟩ (fun j Hj _ h => SqL.of (h.1 _ _ hD)) (fun j x Hj hx hP => ?_) (fun HA hP => ?_)
    · obtain ⟨q, eq, t, x1, y1, rfl, ht, hx1, hy1⟩ := hp.at hx
      obtain ⟨sj, acc, hacc, hlp⟩ := hP
      refine ⟨t, _, rfl, SqT.of (sj _ _ ht), rfl, _, _, rfl, _, _, rfl, rfl, rfl, ?_⟩
      dsimp only [tYes]
      have lu := hlp.length
      rw [List.length_map, List.length_take] at lu
      refine iteT ⟨_, rfl, acc, hacc, (by omega), AT.Same.new sj gE, acc ++ [x1], upd_same, ?_⟩
      rw [List.take_add_one, eq, List.map_append]
      exact (hlp.app (.cons (hx1.up sj) .nil)).upT (sameT_set hacc)
    obtain ⟨sA, fs, hE1, hfs⟩ := hP
    rw [hl, List.take_length] at hfs
    have bA := hb.up sA
    have hE1p : E1 ≠ p := box_ne hb gE
    have lfs := hfs.length
    rw [List.length_map] at lfs
    -- three drawn ones
    refine ⟨3, rfl, by decide, by decide, fun E2 gE2 => ?_⟩
    have hE2p : E2 ≠ p := box_ne bA gE2
    refine lc_range (lo := 0) (n := 3) (fun j Hj => SameX p HA Hj ∧ BoxAt Hj p (n + 3 * j) ∧ ∃ acc qs, Hj E2 = some (.lst acc) ∧ PQs Hj acc qs ∧ qs.length = j ∧ ∀ q ∈ qs, Bits 70 q) ⟨SameX.new (SameX.refl _ _) gE2, bA.new hE2p, [], [], upd_same, .nil, rfl, (fun _ h => nomatch h)⟩ (fun j Hj hj hP => ?_) (fun HB hP => ?_)
    · obtain ⟨xj, bj, acc, qs, hacc, hq, hqs, hbq⟩ := hP
      refine ⟨rfl, ?_⟩
      dsimp only [tYes]
      refine iteT ⟨_, rfl, p, _, rfl, bj, (by omega), fun v q H1 x1 b1 pq fq => ?_⟩
      have lu := hq.length
      have hacc1 := x1 _ _ hE2p hacc
      refine ⟨acc, hacc1, (by omega), SameX.new (xj.trans x1) gE2, b1.new hE2p |>.mono (by omega), acc ++ [v], qs ++ [q], upd_same, ?_, (by simp [hqs]), ?_⟩
      · exact ((hq.upT (sameT_box bj x1)).app (.cons pq .nil)).upT (sameT_set hacc1)
      · intro z hz
        rcases List.mem_append.mp hz with hz | hz
        · exact hbq z hz
        · rw [List.mem_singleton.mp hz]
          exact (fq.bits24 (by decide)).mono (by decide)
    obtain ⟨xB, bB, gs, qs, hE2, hq, hqs, hbq⟩ := hP
    have xHB : SameX p H HB := (sameX_of sA).trans xB
    have hE1B := xB _ _ hE1p hE1
    have lq := hq.length
    refine ⟨E1, E2, fs, gs, rfl, rfl, hE1B, hE2, (by omega), fun E3 gE3 => ?_⟩
    refine ⟨(by show 2 ≤ sizeLine; decide), fun t0 gt0 => ⟨(by show 1 ≤ sizeLine; decide), fun E4 gE4 => ?_⟩⟩
    have s1 := AT.Same.up (o := .lst (fs ++ gs)) gE3
    have s2 := AT.Same.up (o := .tup [.int 0, .int 1]) gt0
    have s3 := AT.Same.up (o := .lst [.ref t0]) gE4
    refine ⟨E3, E4, fs ++ gs, [.ref t0], rfl, rfl, s3 _ _ (s2 _ _ upd_same), upd_same, (by simp only [List.length_append, List.length_cons, List.length_nil]; omega), fun F gF => ?_⟩
    have s4 := AT.Same.up (o := .lst (fs ++ gs ++ [.ref t0])) gF
    have sAll := ((s1.trans s2).trans s3).trans s4
    have hall : PQs _ (fs ++ gs ++ [.ref t0]) (ps.map (·.1) ++ qs ++ [0]) := (((hfs.upT (sameT_box bA xB)).app hq).up sAll).app (.cons ⟨t0, rfl, (s3.trans s4) _ _ upd_same⟩ .nil)
    have hFn : H F = none := by
      have := none_of ((s1.trans s2).trans s3) gF
      cases e : H F with
      | none => rfl
      | some o =>
        have := xHB F o (by rintro rfl; obtain ⟨_, _, _, e2, _⟩ := bB; rw [this] at e2; cases e2) e
        rw [none_of ((s1.trans s2).trans s3) gF] at this
        cases this
    have hF : upd (upd (upd (upd HB E3 (.lst (fs ++ gs))) t0 (.tup [.int 0, .int 1])) E4 (.lst [.ref t0])) F (.lst (fs ++ gs ++ [.ref t0])) F = some (.lst (fs ++ gs ++ [.ref t0])) := upd_same
    have bC := bB.up sAll
    have xC : SameX p H _ := xHB.trans (sameX_of sAll)
    generalize upd (upd (upd (upd HB E3 (.lst (fs ++ gs))) t0 (.tup [.int 0, .int 1])) E4 (.lst [.ref t0])) F (.lst (fs ++ gs ++ [.ref t0])) = HC at hall hF bC xC ⊢
    have hFp : F ≠ p := by
      rintro rfl
      obtain ⟨_, _, _, e2, _⟩ := hb
      rw [hFn] at e2; cases e2
    have up : ∀ {q : Rat} {m k : Nat}, Bits m q → m ≤ k → Bits k q := fun h l => h.mono l
    have grow : ∀ (c : Nat) (H' H1 : Hp) (us : List V) (qs : List Rat) (vs : List V) (rs : List Rat), SameX p H H' → BoxAt H' p (n + 9) → H' F = some (.lst us) → PQs H' us qs → (∀ q ∈ qs, Bits 70 q) → qs.length ≤ c → Same H' H1 → PQs H1 vs rs → (∀ q ∈ rs, Bits 70 q) →
        SameX p H (upd H1 F (.lst (us ++ vs))) ∧ BoxAt (upd H1 F (.lst (us ++ vs))) p (n + 9) ∧ upd H1 F (.lst (us ++ vs)) F = some (.lst (us ++ vs)) ∧ PQs (upd H1 F (.lst (us ++ vs))) (us ++ vs) (qs ++ rs) ∧ (∀ q ∈ qs ++ rs, Bits 70 q) ∧ (qs ++ rs).length ≤ c + rs.length := by
      intro c H' H1 us qs vs rs x b hF' hq hbq hc sm hr hbr
      refine ⟨SameX.new (x.trans (sameX_of sm)) hFn, (b.up sm).new hFp, upd_same, ((hq.up sm).app hr).upT (sameT_set (sm _ _ hF')), fun q hq => ?_, by rw [List.length_append]; omega⟩
      rcases List.mem_append.mp hq with z | z
      · exact hbq q z
      · exact hbr q z
    refine ⟨_, rfl, _, rfl, 1, rfl, D, _, rfl, SqL.of (xC _ _ hDp hD), fun z gz => ?_⟩
    rw [cut_tail]
    have sz := AT.Same.up (o := .lst ws.tail) gz
    have nzF : z ≠ F := by rintro rfl; rw [hF] at gz; cases gz
    have nzp : z ≠ p := box_ne bC gz
    have hn2 : ws.length - 1 = min ws.length ws.tail.length := by rw [List.length_tail]; omega
    refine ⟨D, z, ws, ws.tail, rfl, .inl ⟨SqL.of (sz _ _ (xC _ _ hDp hD)), SqL.of upd_same, for_it (walk_zip hn2) (fun i σ' H' => ∃ o6 o7 us qs, σ' = ([some (.ref p), some (.ref D), none, none, none, some (.ref F), o6, o7] : L2.St) ∧ SameX p H H' ∧ BoxAt H' p (n + 9) ∧ H' z = some (.lst ws.tail) ∧ H' F = some (.lst us) ∧ PQs H' us qs ∧ (∀ q ∈ qs, Bits 70 q) ∧ qs.length ≤ 20 + i) ⟨_, _, _, _, rfl, xC.trans (sameX_of sz), (bC.up sz).mono (by omega), upd_same, sz _ _ hF, hall.up sz, ?_, ?_⟩ (fun i σ' H' hi hP => ?_) (fun i y σ' H' H2 hi hP hY => ?_) (fun σ' H' hP => ?_)⟩⟩
    · intro q hq
      simp only [List.mem_append, List.mem_map, List.mem_singleton] at hq
      rcases hq with (⟨q', hq', rfl⟩ | hq) | rfl
      · exact up (hbits q' hq').1 (by decide)
      · exact hbq q hq
      · exact ⟨by decide +kernel, by decide +kernel⟩
    · simp only [List.length_append, List.length_map, List.length_cons, List.length_nil]
      omega
    · obtain ⟨o6, o7, us, qs', rfl, x, b, hz, _⟩ := hP
      exact ⟨SqL.of (x _ _ hDp hD), SqL.of hz⟩
    · obtain ⟨o6, o7, us, qs', rfl, x, b, hz, hF', hq', hb', hc'⟩ := hP
      obtain ⟨Tp, x0, y0, rfl, hTp, rfl, hx0, hy0⟩ := hY
      have hx0 : ws[i]? = some x0 := hx0
      have hy0 : ws[i + 1]? = some y0 := by
        have z : ws.tail[i]? = some y0 := hy0
        rw [List.getElem?_tail] at z
        exact z
      have sT := AT.Same.up (o := .tup [x0, y0]) hTp
      have tT : SameT H (upd H' Tp (.tup [x0, y0])) := (sameT_box hb x).trans (sameT_of sT)
      obtain ⟨p1, ep, lp1⟩ := hp.at hx0
      obtain ⟨p2, eq, lp2⟩ := hp.at hy0
      have b1 := hbits p1 (List.mem_of_getElem? ep)
      have b2 := hbits p2 (List.mem_of_getElem? eq)
      obtain ⟨t3, x3, y3, rfl, ht3, hx3, hy3⟩ := lp1.upT tT
      obtain ⟨t4, x4, y4, rfl, ht4, hx4, hy4⟩ := lp2.upT tT
      have lu := hq'.length
      refine ⟨Tp, _, rfl, SqT.of upd_same, rfl, _, _, rfl, _, _, rfl, rfl, ?_⟩
      refine ⟨_, rfl, tyV_lst (sT _ _ hF'), _, rfl, t3, _, 0, _, rfl, rfl, SqT.of ht3, rfl, _, rfl, t4, _, 0, _, rfl, rfl, SqT.of ht4, rfl, x3, x4, p1.1, p2.1, rfl, hx3, hx4, up b1.1 (by decide), up b2.1 (by decide), fun v5 H5 s5 q5 => ?_⟩
      refine ⟨(by show 2 ≤ sizeLine; decide), fun t gt => ?_⟩
      have s6 := AT.Same.up (o := .tup [.int 2, .int 1]) gt
      refine ⟨v5, .ref t, _, 2, rfl, q5.up s6, ⟨t, rfl, upd_same⟩, up (b1.1.add b2.1) (by decide), up small2 (by decide), (by decide +kernel), fun v7 H7 s7 q7 => ?_⟩
      have s57 := (sT.trans s5).trans (s6.trans s7)
      obtain ⟨r1, r2, r3, r4, r5, r6⟩ := grow (20 + i) H' H7 us qs' [v7] [_] x b hF' hq' hb' hc' s57 (.cons q7 .nil) (fun q hq => by rw [List.mem_singleton.mp hq]; exact up ((b1.1.add b2.1).div small2 (by decide +kernel)) (by decide))
      refine ⟨F, us, _, rfl, rfl, s57 _ _ hF', (by omega), _, _, _, _, rfl, r1, r2, (by rw [upd_ne nzF]; exact s57 _ _ hz), r3, r4, r5, r6⟩
    · obtain ⟨o6, o7, us, qs', rfl, x, b, hz, hF', hq', hb', hc'⟩ := hP
      have hD' := x _ _ hDp hD
      refine ⟨_, rfl, 1, rfl, D, ws, rfl, SqL.of hD', fun z2 g2 => ?_⟩
      rw [show (1 : Int) = ((1 : Nat) : Int) from rfl, cut_to]
      have sz2 := AT.Same.up (o := .lst (ws.take 1)) g2
      refine ⟨_, rfl, _, rfl, -1, rfl, D, ws, rfl, SqL.of (sz2 _ _ hD'), fun z3 g3 => ?_⟩
      rw [cut_last]
      have sz3 := AT.Same.up (o := .lst (ws.drop (ws.length - 1))) g3
      refine ⟨z2, z3, _, _, rfl, rfl, sz3 _ _ upd_same, upd_same, (by rw [List.length_take, List.length_drop]; omega), fun z4 g4 => ?_⟩
      have sz4 := AT.Same.up (o := .lst (ws.take 1 ++ ws.drop (ws.length - 1))) g4
      have sz := (sz2.trans sz3).trans sz4
      have hFz := sz _ _ hF'
      have nz4 : z4 ≠ F := by rintro rfl; rw [(sz2.trans sz3) _ _ hF'] at g4; cases g4
      have lu := hq'.length
      refine ⟨z4, rfl, ⟨_, SqL.of upd_same⟩, for_list (xs := ws.take 1 ++ ws.drop (ws.length - 1)) (fun j σ' H' => ∃ o2 o3 us qs, σ' = ([some (.ref p), some (.ref D), o2, o3, none, some (.ref F), o6, o7] : L2.St) ∧ SameX p H H' ∧ BoxAt H' p (n + 9) ∧ H' z4 = some (.lst (ws.take 1 ++ ws.drop (ws.length - 1))) ∧ H' F = some (.lst us) ∧ PQs H' us qs ∧ (∀ q ∈ qs, Bits 70 q) ∧ qs.length ≤ 40 + 2 * j) ⟨_, _, us, qs', rfl, x.trans (sameX_of sz), b.up sz, upd_same, hFz, hq'.up sz, hb', by omega⟩ (fun j σ' H' _ hP => ?_) (fun j y σ' H' hy hP => ?_) (fun σ' H' hP => ?_)⟩
      · obtain ⟨o2, o3, us, qs, rfl, x, b, hz4, _⟩ := hP
        exact SqL.of hz4
      · obtain ⟨o2, o3, us, qs2, rfl, x, b, hz4, hF', hq2, hb2, hc2⟩ := hP
        have hyw : y ∈ ws := by
          rcases List.mem_append.mp (List.mem_of_getElem? hy) with z | z
          · exact List.mem_of_mem_take z
          · exact List.mem_of_mem_drop z
        obtain ⟨iy, hiy⟩ := List.getElem?_of_mem hyw
        obtain ⟨p1, ep, lp1⟩ := hp.at hiy
        have b1 := hbits p1 (List.mem_of_getElem? ep)
        obtain ⟨t3, x3, y3, rfl, ht3, hx3, hy3⟩ := lp1.upT (sameT_box hb x)
        have lu2 := hq2.length
        have hj2 : j < 2 := by
          have := (List.getElem?_eq_some_iff.mp hy).1
          rw [List.length_append, List.length_take, List.length_drop] at this
          omega
        refine ⟨t3, _, rfl, SqT.of ht3, rfl, _, _, rfl, _, _, rfl, rfl, ?_⟩
        refine ⟨_, rfl, tyV_lst hF', _, rfl, (by show 2 ≤ sizeLine; decide), fun ta ga => ?_⟩
        have sa := AT.Same.up (o := .tup [.int 1, .int 12]) ga
        refine ⟨x3, .ref ta, p1.1, mkRat 1 12, rfl, hx3.up sa, ⟨ta, rfl, by rw [← pair12]; exact upd_same⟩, up b1.1 (by decide), up small12 (by decide), fun v5 H5 s5 q5 => ?_⟩
        refine ⟨_, rfl, _, rfl, (by show 2 ≤ sizeLine; decide), fun tb gb => ?_⟩
        have sb := AT.Same.up (o := .tup [.int (-9), .int 1]) gb
        refine ⟨x3, .ref tb, p1.1, -9, rfl, ((hx3.up sa).up s5).up sb, ⟨tb, rfl, by rw [← pair9]; exact upd_same⟩, up b1.1 (by decide), up small9 (by decide), fun v6 H6 s6 q6 => ?_⟩
        refine ⟨(by show 2 ≤ sizeLine; decide), fun e ge => ?_⟩
        have se := AT.Same.up (o := .lst [v5, v6]) ge
        have s5e := ((sa.trans s5).trans (sb.trans s6)).trans se
        obtain ⟨r1, r2, r3, r4, r5, r6⟩ := grow (40 + 2 * j) H' _ us qs2 [v5, v6] [_, _] x b hF' hq2 hb2 hc2 s5e (.cons ((q5.up (sb.trans s6)).up se) (.cons (q6.up se) .nil)) (fun q hq => by
          simp only [List.mem_cons, List.not_mem_nil, or_false] at hq
          rcases hq with rfl | rfl
          · exact up (b1.1.add small12) (by decide)
          · exact up (b1.1.add small9) (by decide))
        refine ⟨F, e, us, [v5, v6], rfl, rfl, s5e _ _ hF', upd_same, (by simp only [List.length_cons, List.length_nil]; omega), _, _, _, _, rfl, r1, r2, (by rw [upd_ne nz4]; exact s5e _ _ hz4), r3, r4, r5, ?_⟩
        simp only [List.length_cons, List.length_nil] at r6
        omega
      · obtain ⟨o2, o3, us, qs2, rfl, x, b, hz4, hF', hq2, hb2, hc2⟩ := hP
        refine ⟨_, rfl, k F us qs2 H' x hFn (b.mono (by omega)) hF' hq2 hb2 ?_⟩
        rw [List.length_append, List.length_take, List.length_drop] at hc2
        omega
end
end K08

set_option maxHeartbeats 4000000
namespace K08
open PySem PySem.Spec PyProof.Rows L2 AT
section
variable {P : Program} {w : World} {K : PySem.W.Frag} {mg : Str → Option Value} {base : Heap}
/-- all that is no list is as it was -/
def SameN (H H' : Hp) : Prop := ∀ b o, H b = some o → (∀ xs, o ≠ .lst xs) → H' b = some o
theorem SameN.trans {H H1 H2 : Hp} (a : SameN H H1) (b : SameN H1 H2) : SameN H H2 := fun x o e n => b x o (a x o e n) n
theorem sameN_of {H H' : Hp} (s : Same H H') : SameN H H' := fun b o e _ => s b o e
theorem sameN_box {H H' : Hp} {p : Addr} {n : Nat} (b : BoxAt H p n) (s : SameX p H H') : SameN H H' := fun x o e hn => s x o (by
  rintro rfl
  obtain ⟨_, _, _, e2, _⟩ := b
  rw [e] at e2
  cases e2
  exact hn _ rfl) e
theorem sameN_set {H : Hp} {D : Addr} {ys zs : List V} (h : H D = some (.lst ys)) : SameN H (upd H D (.lst zs)) := fun x o e hn => by
  rw [upd_ne (by rintro rfl; rw [h] at e; cases e; exact hn _ rfl)]
  exact e
theorem SameN.t {H H' : Hp} (s : SameN H H') : SameT H H' := fun b xs e => s b _ e (fun _ z => nomatch z)
theorem IsQ.upN {H H' : Hp} {a : Addr} {q : Rat} (h : IsQ K H a q) (s : SameN H H') : IsQ K H' a q := h.imp fun _ e => s _ _ e (fun _ z => nomatch z)
theorem Qv.upN {H H' : Hp} {v : V} {q : Rat} (h : Qv K H v q) (s : SameN H H') : Qv K H' v q := by
  cases h with
  | obj h => exact .obj (h.upN s)
  | int i => exact .int i
theorem Pts.upN {H H' : Hp} {vs : List V} {ps : List (Rat × Rat)} (h : Pts K H vs ps) (s : SameN H H') : Pts K H' vs ps := by
  induction h with
  | nil => exact .nil
  | cons a b ih =>
    obtain ⟨t, x, y, e, h1, h2, h3⟩ := a
    exact .cons ⟨t, x, y, e, s _ _ h1 (fun _ z => nomatch z), h2.upN s, h3.upN s⟩ ih
theorem IsMap.upN {H H' : Hp} {m : Addr} {ps : List (Rat × Rat)} (h : IsMap K H m ps) (s : SameN H H') : IsMap K H' m ps := by
  obtain ⟨dx, t, ws, h1, h2, h3⟩ := h
  exact ⟨dx, t, ws, s _ _ h1 (fun _ z => nomatch z), s _ _ h2 (fun _ z => nomatch z), h3.upN s⟩
theorem Lst.upX {H H' : Hp} {D p : Addr} {n : Nat} {vs : List V} {ps : List (Rat × Rat)} (h : Lst H D vs ps) (b : BoxAt H p n) (s : SameX p H H') (hn : D ≠ p) : Lst H' D vs ps := ⟨s _ _ hn h.at_, h.lps.upT (sameT_box b s)⟩
theorem not_lt_le {x y : Rat} : (!decide (x < y)) = decide (y ≤ x) := by
  by_cases c : x < y
  · rw [decide_eq_true c, decide_eq_false (by grind)]; rfl
  · rw [decide_eq_false c, decide_eq_true (by grind)]; rfl
theorem new_x {p D : Addr} {H H' : Hp} {n : Nat} (x : SameX p H H') (b : BoxAt H' p n) (h : H' D = none) : H D = none := by
  cases e : H D with
  | none => rfl
  | some o =>
    have := x D o (box_ne b h) e
    rw [h] at this
    cases this
theorem same_dq {x y : Rat} (h : x = y) : (!PyData.eqv (dq x) (dq y)) = false := by rw [eqv_dq, decide_eq_true h]; rfl
theorem same_dl {x y : List (Rat × Rat)} (h : x = y) : PyData.eqv (dl x) (dl y) = true := by rw [eqv_dl, decide_eq_true h]
def spRight (K : PySem.W.Frag) : Sp := fun vs H Q _ => ∃ (p : Addr) (n : Nat) (m D : Addr) (ws : List V) (ps : List (Rat × Rat)), vs = [.ref p, .ref m, .ref D] ∧ BoxAt H p n ∧ n ≤ 5000 ∧ IsMap K H m (PL.bendF ps) ∧ FineM (PL.bendF ps) ∧ Lst H D ws ps ∧ FinS ps ∧ D ≠ p ∧
  ∀ H', SameX p H H' → BoxAt H' p (n + 120) → Q (.bl true) H'
theorem sc_w_right : FnScope ["_law_bag_here", "_law_tempo", "_law_points_here", "_law_steeps", "_law_beat", "_law_point", "_law_many", "_law_given_here", "_law_found"] ["_law_bag_here", "_law_tempo", "_law_points_here"] (defScope s_w_right) := ⟨rfl, rfl, rfl, by decide +kernel, rfl, by decide +kernel, by decide +kernel⟩
theorem ok_w_right (T : Tx K mg base) : Ok P w K mg base 11 (d_w_right.loc K) ["_law_bag_here", "_law_tempo", "_law_points_here"] (spRight K) := by
  refine mk_ok (k := 10) T.f_w_right sc_w_right (fun _ _ _ _ _ _ us hl => match us, hl with | [_, _, _], _ => rfl) (fun vs H Q E h => ?_) (fun cdv A outer s H vs Q E hr h => ?_)
  · obtain ⟨p, n, m, D, ws, ps, rfl, _⟩ := h
    rfl
  · obtain ⟨p, n, m, D, ws, ps, rfl, hb, hn, hm, fm, hL, hF, hDp, k⟩ := h
    refine ⟨_, (pss_cons (ps_set (i := 3) sc_w_right.nd rfl (Or.inl rfl) (ok_call (ok_w_paces T) (hr.mono (by decide)) rfl T.g_w_paces passL (pa_cons (pv 2) pa_nil)))
      (pss_cons (ps_for (passes_of rfl) rfl (pi_list (ok_call (ok_w_asked T) (hr.mono (by decide)) rfl T.g_w_asked passL (pa_cons (pv 0) (pa_cons (pv 2) pa_nil)))) (pg_name (i := 4) sc_w_right.nd rfl (Or.inr rfl)) (pss_cons (ps_set (i := 6) sc_w_right.nd rfl (Or.inl rfl) (pe_callB call_len_seq (by rfl) T.b_len (by decide +kernel) (pa_cons (pe_lc (own := [("_law_point", 5)]) (g := (gName 5)) (by rfl) sc_w_right.nd (pi_list (pv 2)) (blkOk_by (own := [("_law_point", 5)]) (N := ["_law_bag_here", "_law_tempo", "_law_points_here", "_law_steeps", "_law_beat", "_law_point", "_law_many", "_law_given_here", "_law_found"]) (sc := defScope s_w_right) (by decide +kernel)) (fun _ _ _ _ _ => (pg_name (i := 5) sc_w_right.nd rfl (Or.inl rfl))) (fun _ _ _ _ _ => (pts_one (pt_not (pt_val (ok_call (ok_w_less T) (hr.mono (by decide)) rfl T.g_w_less passL (pa_cons (pv 4) (pa_cons (pe_ix (show IxR _ (rIxT K) from ix_tup) (pv 5) pe_int (fun _ _ => rfl)) pa_nil))))))) (fun _ _ _ _ _ => (pv 5))) pa_nil)))
      (pss_one (ps_for (passes_of rfl) rfl (pi_list (pe_lst (pa_cons (ok_make T.mkr_Amount (ok_Amount_init_ T) (hr.mono (by decide)) rfl T.g_Amount (passE rfl rfl rfl rfl) (pa_cons (pe_ix ix_tup (pv 4) pe_int (fun _ _ => rfl)) (pa_cons (pe_ix ix_tup (pv 4) pe_int (fun _ _ => rfl)) pa_nil))) (pa_cons (ok_call (ok_w_given T) (hr.mono (by decide)) rfl T.g_w_given passL (pa_cons (pv 0) (pa_cons (pv 4) pa_nil))) pa_nil)))) (pg_name (i := 7) sc_w_right.nd rfl (Or.inl rfl)) (pss_cons (ps_if (pt_cmpR (op_neD hr.units) (ok_call (ok_w_pair T) (hr.mono (by decide)) rfl T.g_w_pair passL (pa_cons (ok_callO T.co_TempoMap (ok_TempoMap_call_ T) (hr.mono (by decide)) (passE rfl rfl rfl rfl) (pv 1) (pa_cons (pv 7) pa_nil)) pa_nil)) (ok_call (ok_w_led T) (hr.mono (by decide)) rfl T.g_w_led passL (pa_cons (pv 2) (pa_cons (pv 4) (pa_cons pe_int (pa_cons pe_int pa_nil))))) (nomark _)) (pss_one (ps_ret pe_bl)) pss_nil)
      (pss_one (ps_if (pt_cmpR (op_neD hr.units) (ok_call (ok_w_pair T) (hr.mono (by decide)) rfl T.g_w_pair passL (pa_cons (ok_meth T.cls_TempoMap T.m_TempoMap_pace (ok_TempoMap_pace T) (hr.mono (by decide)) (passE rfl rfl rfl rfl) (pv 1) (pa_cons (pv 7) pa_nil)) pa_nil)) (pe_ix ix_list (pv 3) (pv 6) (fun _ _ => rfl)) (nomark _)) (pss_one (ps_ret pe_bl)) pss_nil)))))))
      (pss_cons (ps_set (i := 8) sc_w_right.nd rfl (Or.inl rfl) (ok_meth0 T.cls_TempoMap T.m_TempoMap_points (ok_TempoMap_points T) (hr.mono (by decide)) passL (pv 1) ))
      (pss_cons (ps_if (PW.pt (pw_or (pt_not (pt_val (pe_callB call_isi (by rfl) T.b_isinstance (by decide +kernel) (pa_cons (pv 8) (pa_cons (pe_bltn (v := .ty "list") rfl T.b_list (by decide +kernel) rfl) pa_nil))))) (pw_or1 (pt_cmpR (op_neD hr.units) (ok_call (ok_w_pairs T) (hr.mono (by decide)) rfl T.g_w_pairs passL (pa_cons (pv 8) pa_nil)) (ok_call (ok_w_bends T) (hr.mono (by decide)) rfl T.g_w_bends passL (pa_cons (pv 2) pa_nil)) (nomark _))))) (pss_one (ps_ret pe_bl)) pss_nil)
      (pss_cons (ps_expr (pe_bm PySem.F.plainAttrs_list PySem.F.slot_list_append PySem.F.type_list_append mt_append (pv 8) (pa_cons pe_str pa_nil)))
      (pss_one (ps_ret (pe_cmpR (op_eqD hr.units) (ok_call (ok_w_pairs T) (hr.mono (by decide)) rfl T.g_w_pairs passL (pa_cons (ok_meth0 T.cls_TempoMap T.m_TempoMap_points (ok_TempoMap_points T) (hr.mono (by decide)) passL (pv 1) ) pa_nil)) (ok_call (ok_w_bends T) (hr.mono (by decide)) rfl T.g_w_bends passL (pa_cons (pv 2) pa_nil)) (nomark _))))))))), ?_⟩
    have hsz : sizeLine = 16777216 := sizeLine_eq
    have hris := ris_of hF.1
    refine ⟨_, rfl, D, ws, ps, rfl, hL, hF.l, fun S ss H1 s1 hSn hS hq => ?_⟩
    have b1 := hb.up s1
    have hSp : S ≠ p := box_ne hb hSn
    refine ⟨_, rfl, _, rfl, p, n, D, ws, ps, rfl, b1, (by omega), hL.up s1, hF, hDp, fun F us qs H2 x2 hFn b2 hF2 hqs hbq hqc => ?_⟩
    have hFp : F ≠ p := box_ne b1 hFn
    have xH2 : SameX p H H2 := (sameX_of s1).trans x2
    have lqs := hqs.length
    refine ⟨F, rfl, ⟨_, SqL.of hF2⟩, for_list (xs := us) (fun j σ' H' => ∃ o4 o6 o7, σ' = ([some (.ref p), some (.ref m), some (.ref D), some (.ref S), o4, none, o6, o7, none] : L2.St) ∧ SameX p H2 H' ∧ BoxAt H' p (n + 10 + j)) ⟨_, _, _, rfl, SameX.refl _ _, b2.mono (by omega)⟩ (fun j σ' H' _ hP => ?_) (fun j y σ' H' hy hP => ?_) (fun σ' H' hP => ?_)⟩
    · obtain ⟨o4, o6, o7, rfl, x, b⟩ := hP
      exact SqL.of (x _ _ hFp hF2)
    · obtain ⟨o4, o6, o7, rfl, x, b⟩ := hP
      have hj : j < us.length := (List.getElem?_eq_some_iff.mp hy).1
      obtain ⟨xv, ex, pq⟩ := hqs.at hy
      have bx := hbq xv (List.mem_of_getElem? ex)
      have pqj : PQ H' y xv := pq.upX b2 x
      obtain ⟨ay, rfl, hay⟩ := id pqj
      have xHj : SameX p H H' := xH2.trans x
      have hLj : Lst H' D ws ps := hL.upX hb xHj hDp
      have hmj : IsMap K H' m (PL.bendF ps) := hm.upN (sameN_box hb xHj)
      have hSj : H' S = some (.lst ss) := (x2.trans x) _ _ hSp hS
      have hqj : PQs H' ss (steepQ ps) := hq.upT (sameT_box b1 (x2.trans x))
      have hl := hLj.lps.length
      have up : ∀ {q : Rat} {m k : Nat}, Bits m q → m ≤ k → Bits k q := fun h l => h.mono l
      have big8 : ((xv.den : Int)).natAbs < 2 ^ 8000 := Nat.lt_trans (den_bits bx) (Nat.pow_lt_pow_right (by decide) (by decide))
      refine ⟨_, rfl, D, rfl, ⟨_, SqL.of hLj.at_⟩, fun E1 gE => ?_⟩
      refine lc_list (K := K) (a := D) (xs := ws) (fun i Hj => Same H' Hj ∧ ∃ acc, Hj E1 = some (.lst acc) ∧ acc.length = cntQ (ps.take i) xv) ⟨AT.Same.up gE, [], upd_same, rfl⟩ (fun i Hj _ h => SqL.of (h.1 _ _ hLj.at_)) (fun i z Hj hz hP => ?_) (fun H3 hP => ?_)
      · obtain ⟨q, eq, t, x1, y1, rfl, ht, hx1, hy1⟩ := hLj.lps.at hz
        obtain ⟨sj, acc, hacc, hcnt⟩ := hP
        have st : cntQ (ps.take (i + 1)) xv = cntQ (ps.take i) xv + (if q.1 ≤ xv then 1 else 0) := by
          unfold cntQ
          rw [List.take_succ, eq, List.filter_append]
          by_cases c : q.1 ≤ xv <;> simp [c]
        have hle : cntQ (ps.take i) xv ≤ i := by
          unfold cntQ
          exact Nat.le_trans (List.length_filter_le _ _) (by rw [List.length_take]; omega)
        have hi : i < ws.length := (List.getElem?_eq_some_iff.mp hz).1
        have hpl := hF.2.2
        refine ⟨rfl, ?_⟩
        refine ⟨_, rfl, _, rfl, t, _, 0, _, rfl, rfl, SqT.of (sj _ _ ht), rfl, .ref ay, x1, xv, q.1, rfl, pqj.up sj, hx1.up sj, up bx (by decide), up (hF.2.1 q (List.mem_of_getElem? eq)).1 (by decide), _, rfl, ?_⟩
        by_cases c : q.1 ≤ xv
        · rw [show decide (xv < q.1) = false from decide_eq_false (by grind)]
          rw [if_pos c] at st
          exact iteT ⟨_, rfl, acc, hacc, (by omega), AT.Same.new sj gE, _, upd_same, by rw [List.length_append, hcnt, st]; rfl⟩
        · rw [show decide (xv < q.1) = true from decide_eq_true (by grind)]
          rw [if_neg c] at st
          exact iteF ⟨sj, acc, hacc, by rw [hcnt, st]; rfl⟩
      obtain ⟨s3, acc, hacc, hcnt⟩ := hP
      rw [hl, List.take_length] at hcnt
      refine ⟨E1, acc, rfl, .inl (SqL.of hacc), ?_⟩
      have hay3 := s3 _ _ hay
      refine ⟨_, rfl, ay, _, 0, _, rfl, rfl, SqT.of hay3, rfl, _, rfl, ay, _, 1, _, rfl, rfl, SqT.of hay3, rfl, fun u e gu ge _ => ⟨u, e, _, _, rfl, upd_same, .int _, .int _, .inl ⟨_, _, rfl, rfl, den_ne xv, big8, rfl, ?_⟩⟩⟩
      have sM := made_same (o1 := .ins (cA K) e []) (o2 := .ins (cA K) e (amtQ (Rat.divInt xv.num xv.den))) gu ge
      have s3M := s3.trans sM
      have qu : IsQ K (upd (upd (upd H3 e (.own u)) u (.ins (cA K) e [])) u (.ins (cA K) e (amtQ (Rat.divInt xv.num xv.den)))) u xv := ⟨e, upd_same.trans (congrArg (fun z => some (HO.ins (cA K) e (amtQ z))) (q_self xv))⟩
      refine ⟨_, rfl, _, rfl, p, _, .ref ay, xv, rfl, b.up s3M, (by omega), pqj.up s3M, up bx (by decide), fun u2 H4 x4 b4 qv2 _ => ?_⟩
      have bM := b.up s3M
      have hu4 : IsQ K H4 u xv := qu.upN (sameN_box bM x4)
      refine ⟨(by show 2 ≤ sizeLine; decide), fun l gl => ?_⟩
      have sl := AT.Same.up (o := .lst [.ref u, u2]) gl
      have xj4 : SameX p H' H4 := (sameX_of s3M).trans x4
      have xj5 : SameX p H' (upd H4 l (.lst [.ref u, u2])) := xj4.trans (sameX_of sl)
      have b5 := b4.up sl
      have hl5 : upd H4 l (.lst [.ref u, u2]) l = some (.lst [.ref u, u2]) := upd_same
      have g1 : ∀ g ∈ [.ref u, u2], Qv K (upd H4 l (.lst [.ref u, u2])) g xv := by
        intro g hg
        simp only [List.mem_cons, List.not_mem_nil, or_false] at hg
        rcases hg with rfl | rfl
        · exact .obj (hu4.up sl)
        · exact qv2.up sl
      generalize upd H4 l (.lst [.ref u, u2]) = H5 at xj5 b5 hl5 g1 ⊢
      have hL5 : Lst H5 D ws ps := hLj.upX b xj5 hDp
      have hm5 : IsMap K H5 m (PL.bendF ps) := hmj.upN (sameN_box b xj5)
      have hS5 : H5 S = some (.lst ss) := xj5 _ _ hSp hSj
      have hq5 : PQs H5 ss (steepQ ps) := hqj.upT (sameT_box b xj5)
      have pq5 : PQ H5 (.ref ay) xv := pqj.upX b xj5
      refine ⟨l, rfl, ⟨_, SqL.of hl5⟩, for_list (xs := [.ref u, u2]) (fun i σ' H6 => ∃ o7, σ' = ([some (.ref p), some (.ref m), some (.ref D), some (.ref S), some (.ref ay), none, some (.int (acc.length : Nat)), o7, none] : L2.St) ∧ Same H5 H6) ⟨_, rfl, Same.refl _⟩ (fun i σ' H6 _ hP => SqL.of (hP.choose_spec.2 _ _ hl5)) (fun i g σ' H6 hg hP => ?_) (fun σ' H6 hP => ?_)⟩
      · obtain ⟨o7, rfl, s6⟩ := hP
        have qg := (g1 g (List.mem_of_getElem? hg)).up s6
        have hm6 := hm5.up s6
        obtain ⟨dm, tm, wm, m1, m2, m3⟩ := id hm6
        have bx4 := up (k := 400) bx (by decide)
        refine ⟨_, rfl, m, rfl, _, rfl, .inr ⟨dm, _, m1⟩, m, _, g, rfl, hm6, fm, qg.any, .inl ⟨xv, qg, bx4, fun r H7 s7 hr7 => ?_⟩⟩
        refine ⟨r, _, rfl, hr7, fun v8 H8 s8 q8 => ?_⟩
        have s68 := (s6.trans s7).trans s8
        refine ⟨_, rfl, _, rfl, D, ws, ps, .ref ay, xv, rfl, hL5.up s68, hF.l, pq5.up s68, bx, fun v9 H9 s9 q9 => ?_⟩
        refine ⟨dq _, dq _, (q8.up s9).dp, q9.dp, rfl, rfl, false, congrArg V.bl (same_dq (PL.led_bends hris xv)), iteF ?_⟩
        have s59 := s68.trans s9
        have hm9 := hm5.up s59
        obtain ⟨dm9, tm9, wm9, n1, n2, n3⟩ := id hm9
        have qg9 := qg.up ((s7.trans s8).trans s9)
        refine ⟨_, rfl, m, dm9, _, rfl, n1, rfl, _, rfl, m, _, g, rfl, hm9, fm, qg9.any, .inl ⟨xv, qg9, bx4, fun r H10 s10 hr10 => ?_⟩⟩
        refine ⟨r, _, rfl, hr10, fun v11 H11 s11 q11 => ?_⟩
        have s511 := (s59.trans s10).trans s11
        have est : (steepQ ps)[cntQ ps xv]? = some (PL.paceR 1 ps xv) := by
          by_cases c : ps = []
          · subst c; exact pace_empty xv
          · exact pace_at hF.1 c xv
        obtain ⟨vs, evs, pvs⟩ := hq5.get est
        refine ⟨_, rfl, _, rfl, S, ss, _, _, rfl, rfl, SqL.of (s511 _ _ hS5), (by rw [hcnt]; exact atI_nat evs), dq _, dq _, q11.dp, (pvs.up s511).dp, rfl, rfl, false, congrArg V.bl (same_dq (PL.pace_bends hris xv)), iteF ⟨_, rfl, s511⟩⟩
      · obtain ⟨o7, rfl, s6⟩ := hP
        exact ⟨_, _, _, rfl, x.trans (xj5.trans (sameX_of s6)), (b5.up s6).mono (by omega)⟩
    · obtain ⟨o4, o6, o7, rfl, x, b⟩ := hP
      have xHj : SameX p H H' := xH2.trans x
      have hLj : Lst H' D ws ps := hL.upX hb xHj hDp
      have hmj : IsMap K H' m (PL.bendF ps) := hm.upN (sameN_box hb xHj)
      obtain ⟨dm, tm, wm, m1, m2, m3⟩ := id hmj
      refine ⟨_, rfl, m, dm, _, rfl, m1, rfl, m, _, rfl, hmj, fun D3 us3 H3 s3 gD3 hD3 pt3 => ?_⟩
      refine ⟨_, rfl, _, _, _, _, _, rfl, .ty _, .base (.lst hD3), kit_ty (r := true) (by decide +kernel), _, rfl, iteF ?_⟩
      refine ⟨_, rfl, D3, us3, _, rfl, hD3, pt3, fm.2.2.1, fun D4 ws4 H4 s4 gD4 L4 => ?_⟩
      refine ⟨_, rfl, D, ws, ps, rfl, (hLj.up s3).up s4, hF.l, fun D5 ws5 H5 s5 gD5 L5 => ?_⟩
      refine ⟨dl _, dl _, (L4.up s5).dp, L5.dp, shaped_dl _, shaped_dl _, false, congrArg V.bl (by rw [same_dl rfl]; rfl), iteF ?_⟩
      have s35 := (s3.trans s4).trans s5
      have hD35 := (s4.trans s5) _ _ hD3
      have l3 := pt3.length
      have := fm.2.2.1
      refine ⟨_, rfl, tyV_lst hD35, D3, us3, _, rfl, rfl, hD35, (by omega), ?_⟩
      have nD3 : H D3 = none := new_x xHj b gD3
      have sN : SameN H' (upd H5 D3 (.lst (us3 ++ [.str "late1"]))) := (sameN_of s35).trans (sameN_set hD35)
      have hD3D : D ≠ D3 := by rintro rfl; rw [hLj.at_] at gD3; cases gD3
      have hL6 : Lst (upd H5 D3 (.lst (us3 ++ [.str "late1"]))) D ws ps := ⟨by rw [upd_ne hD3D]; exact s35 _ _ hLj.at_, hLj.lps.upT sN.t⟩
      have hm6 := hmj.upN sN
      have x6 : SameX p H (upd H5 D3 (.lst (us3 ++ [.str "late1"]))) := SameX.new (xHj.trans (sameX_of s35)) nD3
      have b6 : BoxAt (upd H5 D3 (.lst (us3 ++ [.str "late1"]))) p (n + 120) := ((b.up s35).new (box_ne b gD3)).mono (by omega)
      generalize upd H5 D3 (.lst (us3 ++ [.str "late1"])) = H6 at hL6 hm6 x6 b6 ⊢
      obtain ⟨dm6, tm6, wm6, n1, n2, n3⟩ := id hm6
      refine ⟨_, rfl, m, dm6, _, rfl, n1, rfl, m, _, rfl, hm6, fun D7 us7 H7 s7 gD7 hD7 pt7 => ?_⟩
      refine ⟨D7, us7, _, rfl, hD7, pt7, fm.2.2.1, fun D8 ws8 H8 s8 gD8 L8 => ?_⟩
      refine ⟨_, rfl, D, ws, ps, rfl, (hL6.up s7).up s8, hF.l, fun D9 ws9 H9 s9 gD9 L9 => ?_⟩
      refine ⟨dl _, dl _, (L8.up s9).dp, L9.dp, shaped_dl _, shaped_dl _, ?_⟩
      rw [same_dl rfl]
      exact k H9 (x6.trans (sameX_of ((s7.trans s8).trans s9))) (b6.up ((s7.trans s8).trans s9))
end
end K08

set_option maxHeartbeats 4000000
namespace K08
open PySem PySem.Spec PyProof.Rows L2 AT
theorem small3 : Bits 10 (3 : Rat) := ⟨by decide +kernel, by decide +kernel⟩
theorem finer_len : ∀ (l : List (Rat × Rat)), (PL.finer l).length ≤ 2 * l.length
  | [] => by decide
  | [_] => by simp [PL.finer]
  | _ :: q :: r => by
    have := finer_len (q :: r)
    show (PL.finer (q :: r)).length + 1 + 1 ≤ 2 * ((q :: r).length + 1)
    omega
section
variable {P : Program} {w : World} {K : PySem.W.Frag} {mg : Str → Option Value} {base : Heap}
theorem LPs.drop {H : Hp} {vs : List V} {ps : List (Rat × Rat)} (h : LPs H vs ps) : ∀ (n : Nat), LPs H (vs.drop n) (ps.drop n) := by
  induction h with
  | nil => intro n; simp; exact .nil
  | cons a b ih =>
    intro n
    cases n with
    | zero => exact .cons a b
    | succ n => simpa using ih n
theorem LPs.take {H : Hp} {vs : List V} {ps : List (Rat × Rat)} (h : LPs H vs ps) : ∀ (n : Nat), LPs H (vs.take n) (ps.take n) := by
  induction h with
  | nil => intro n; simp; exact .nil
  | cons a b ih =>
    intro n
    cases n with
    | zero => exact .nil
    | succ n => exact .cons a (ih n)
theorem LPs.appL {H : Hp} {vs ws : List V} {ps qs : List (Rat × Rat)} (h : LPs H vs ps) (g : LPs H ws qs) : LPs H (vs ++ ws) (ps ++ qs) := by
  induction h with
  | nil => exact g
  | cons a b ih => exact .cons a ih
def spFiner : Sp := fun vs H Q _ => ∃ (p : Addr) (n : Nat) (D : Addr) (ws : List V) (ps : List (Rat × Rat)), vs = [.ref p, .ref D] ∧ BoxAt H p n ∧ n ≤ 9000 ∧ Lst H D ws ps ∧ FinS ps ∧ D ≠ p ∧
  ∀ F us b H', SameX p H H' → H F = none → BoxAt H' p (n + 1) → Lst H' F us (PL.more (PL.finer ps) b) → FinL (PL.more (PL.finer ps) b) → Q (.ref F) H'
theorem sc_w_finer : FnScope ["_law_bag_here", "_law_points_here", "_law_found", "_law_one", "_law_other", "_law_beat", "_law_second"] ["_law_bag_here", "_law_points_here"] (defScope s_w_finer) := ⟨rfl, rfl, rfl, by decide +kernel, rfl, by decide +kernel, by decide +kernel⟩
theorem ok_w_finer (T : Tx K mg base) : Ok P w K mg base 4 (d_w_finer.loc K) ["_law_bag_here", "_law_points_here"] spFiner := by
  refine mk_ok (k := 3) T.f_w_finer sc_w_finer (fun _ _ _ _ _ _ us hl => match us, hl with | [_, _], _ => rfl) (fun vs H Q E h => ?_) (fun cdv A outer s H vs Q E hr h => ?_)
  · obtain ⟨p, n, D, ws, ps, rfl, _⟩ := h
    rfl
  · obtain ⟨p, n, D, ws, ps, rfl, hb, hn, ⟨hD, hp⟩, ⟨hris, hbits, hlen⟩, hDp, k⟩ := h
    refine ⟨_, (pss_cons (ps_set (i := 2) sc_w_finer.nd rfl (Or.inl rfl) (pe_lst pa_nil))
      (pss_cons (ps_for (passes_of rfl) rfl (RZ.pi_zipA (by rfl) T.b_zip (pa_cons (pv 1) (pa_cons (pe_slice sl_list (pv 1) (po_some pe_int) po_none) pa_nil))) (pg_tup rfl (pgs_cons (pg_name (i := 3) sc_w_finer.nd rfl (Or.inl rfl)) (pgs_cons (pg_name (i := 4) sc_w_finer.nd rfl (Or.inl rfl)) pgs_nil))) (pss_cons (ps_par (by rfl) sc_w_finer.nd (i := 5) (j := 6) rfl rfl (by decide) rfl rfl (pa_cons (ok_call (ok_w_sum T) (hr.mono (by decide)) rfl T.g_w_sum passL (pa_cons (pe_ix ix_tup (pv 3) pe_int (fun _ _ => rfl)) (pa_cons (pe_ix ix_tup (pv 4) pe_int (fun _ _ => rfl)) pa_nil))) (pa_cons (ok_call (ok_w_sum T) (hr.mono (by decide)) rfl T.g_w_sum passL (pa_cons (pe_ix ix_tup (pv 3) pe_int (fun _ _ => rfl)) (pa_cons (pe_ix ix_tup (pv 4) pe_int (fun _ _ => rfl)) pa_nil))) pa_nil)) (by rfl))
      (pss_one (ps_expr (pe_bm PySem.F.plainAttrs_list PySem.F.slot_list_extend PySem.F.type_list_extend mt_extend (pv 2) (pa_cons (pe_lst (pa_cons (pv 3) (pa_cons (pe_tup (pa_cons (ok_call (ok_w_quotient T) (hr.mono (by decide)) rfl T.g_w_quotient passL (pa_cons (pv 5) (pa_cons (pe_tup (pa_cons pe_int (pa_cons pe_int pa_nil))) pa_nil))) (pa_cons (ok_call (ok_w_quotient T) (hr.mono (by decide)) rfl T.g_w_quotient passL (pa_cons (pv 6) (pa_cons (pe_tup (pa_cons pe_int (pa_cons pe_int pa_nil))) pa_nil))) pa_nil))) pa_nil))) pa_nil))))))
      (pss_cons (ps_set (i := 2) sc_w_finer.nd rfl (Or.inl rfl) (pe_op op_cat (pv 2) (pe_slice sl_list (pv 1) (po_some (pe_un un_neg pe_int)) po_none)))
      (pss_cons (ps_if (PW.pt (pw_and (pt_cmpR (show OpR _ _ (rNeE K) from op_neE hr.units) (pv 1) (pe_lst pa_nil) (nomark _)) (pw_and1 (pt_cmpR op_eq (ok_call (ok_w_take T) (hr.mono (by decide)) rfl T.g_w_take passL (pa_cons (pv 0) (pa_cons pe_int pa_nil))) pe_int (nomark _))))) (pss_one (ps_expr (pe_bm PySem.F.plainAttrs_list PySem.F.slot_list_append PySem.F.type_list_append mt_append (pv 2) (pa_cons (pe_tup (pa_cons (ok_call (ok_w_sum T) (hr.mono (by decide)) rfl T.g_w_sum passL (pa_cons (pe_ix ix_tup (pe_ix ix_list (pv 1) (pe_un un_neg pe_int) (fun _ _ => rfl)) pe_int (fun _ _ => rfl)) (pa_cons (pe_tup (pa_cons pe_int (pa_cons pe_int pa_nil))) pa_nil))) (pa_cons (ok_call (ok_w_sum T) (hr.mono (by decide)) rfl T.g_w_sum passL (pa_cons (pe_ix ix_tup (pe_ix ix_list (pv 1) (pe_un un_neg pe_int) (fun _ _ => rfl)) pe_int (fun _ _ => rfl)) (pa_cons (pe_tup (pa_cons pe_int (pa_cons pe_int pa_nil))) pa_nil))) pa_nil))) pa_nil)))) pss_nil)
      (pss_one (ps_ret (pv 2))))))), ?_⟩
    have hl := hp.length
    have hsz : sizeLine = 16777216 := sizeLine_eq
    have up : ∀ {q : Rat} {m k : Nat}, Bits m q → m ≤ k → Bits k q := fun h l => h.mono l
    refine ⟨Nat.zero_le _, fun F0 gF0 => ?_⟩
    have s0 := AT.Same.up (o := .lst []) gF0
    have hD0 := s0 _ _ hD
    refine ⟨_, rfl, _, rfl, 1, rfl, D, _, rfl, SqL.of hD0, fun z gz => ?_⟩
    rw [cut_tail]
    have sz := AT.Same.up (o := .lst ws.tail) gz
    have nzF : z ≠ F0 := by rintro rfl; rw [upd_same] at gz; cases gz
    have hn2 : ws.length - 1 = min ws.length ws.tail.length := by rw [List.length_tail]; omega
    have s0z := s0.trans sz
    refine ⟨D, z, ws, ws.tail, rfl, .inl ⟨SqL.of (sz _ _ hD0), SqL.of upd_same, for_it (walk_zip hn2) (fun i σ' H' => ∃ o3 o4 o5 o6 us qs, σ' = ([some (.ref p), some (.ref D), some (.ref F0), o3, o4, o5, o6] : L2.St) ∧ Same H H' ∧ H' z = some (.lst ws.tail) ∧ H' F0 = some (.lst us) ∧ LPs H' us qs ∧ (∀ q ∈ qs, BitsP 64 q) ∧ PL.finer ps = qs ++ PL.finer (ps.drop i) ∧ qs.length = 2 * i) ⟨_, _, _, _, [], [], rfl, s0z, upd_same, sz _ _ upd_same, .nil, (fun _ h => nomatch h), rfl, rfl⟩ (fun i σ' H' hi hP => ?_) (fun i y σ' H' H2 hi hP hY => ?_) (fun σ' H' hP => ?_)⟩⟩
    · obtain ⟨_, _, _, _, us, qs, rfl, sm, hz, _⟩ := hP
      exact ⟨SqL.of (sm _ _ hD), SqL.of hz⟩
    · obtain ⟨o3, o4, o5, o6, us, qs, rfl, sm, hz, hF, hq, hbq, hfin, hql⟩ := hP
      obtain ⟨Tp, x0, y0, rfl, hTp, rfl, hx0, hy0⟩ := hY
      have hx0 : ws[i]? = some x0 := hx0
      have hy0 : ws[i + 1]? = some y0 := by
        have z : ws.tail[i]? = some y0 := hy0
        rw [List.getElem?_tail] at z
        exact z
      have sT := AT.Same.up (o := .tup [x0, y0]) hTp
      have sH2 := sm.trans sT
      obtain ⟨p1, ep, lp1⟩ := hp.at hx0
      obtain ⟨p2, eq, lp2⟩ := hp.at hy0
      have b1 := hbits p1 (List.mem_of_getElem? ep)
      have b2 := hbits p2 (List.mem_of_getElem? eq)
      have lp1' := lp1.up sH2
      obtain ⟨t3, x3, y3, rfl, ht3, hx3, hy3⟩ := id lp1'
      obtain ⟨t4, x4, y4, rfl, ht4, hx4, hy4⟩ := lp2.up sH2
      have lu := hq.length
      have hdr : ps.drop i = p1 :: p2 :: ps.drop (i + 2) := by
        have h1 : i < ps.length := (List.getElem?_eq_some_iff.mp ep).1
        have h2 : i + 1 < ps.length := (List.getElem?_eq_some_iff.mp eq).1
        rw [List.drop_eq_getElem_cons h1, List.drop_eq_getElem_cons h2]
        rw [List.getElem?_eq_getElem h1] at ep
        rw [List.getElem?_eq_getElem h2] at eq
        cases ep
        cases eq
        rfl
      have hdr1 : ps.drop (i + 1) = p2 :: ps.drop (i + 2) := by
        have := congrArg List.tail hdr
        simpa using this
      refine ⟨Tp, _, rfl, SqT.of upd_same, rfl, _, _, rfl, _, _, rfl, rfl, ?_⟩
      refine ⟨_, rfl, t3, _, 0, _, rfl, rfl, SqT.of ht3, rfl, _, rfl, t4, _, 0, _, rfl, rfl, SqT.of ht4, rfl, x3, x4, p1.1, p2.1, rfl, hx3, hx4, up b1.1 (by decide), up b2.1 (by decide), fun v5 H5 s5 q5 => ?_⟩
      refine ⟨_, rfl, t3, _, 1, _, rfl, rfl, SqT.of (s5 _ _ ht3), rfl, _, rfl, t4, _, 1, _, rfl, rfl, SqT.of (s5 _ _ ht4), rfl, y3, y4, p1.2, p2.2, rfl, hy3.up s5, hy4.up s5, up b1.2 (by decide), up b2.2 (by decide), fun v6 H6 s6 q6 => ?_⟩
      refine ⟨_, _, rfl, ?_⟩
      have s56 := (sT.trans s5).trans s6
      refine ⟨_, rfl, tyV_lst (s56 _ _ hF), _, rfl, _, rfl, (by show 2 ≤ sizeLine; decide), fun ta ga => ?_⟩
      have sa := AT.Same.up (o := .tup [.int 2, .int 1]) ga
      refine ⟨v5, .ref ta, _, 2, rfl, (q5.up s6).up sa, ⟨ta, rfl, upd_same⟩, up (b1.1.add b2.1) (by decide), up small2 (by decide), (by decide +kernel), fun v7 H7 s7 q7 => ?_⟩
      refine ⟨_, rfl, (by show 2 ≤ sizeLine; decide), fun tb gb => ?_⟩
      have sb := AT.Same.up (o := .tup [.int 2, .int 1]) gb
      refine ⟨v6, .ref tb, _, 2, rfl, ((q6.up sa).up s7).up sb, ⟨tb, rfl, upd_same⟩, up (b1.2.add b2.2) (by decide), up small2 (by decide), (by decide +kernel), fun v8 H8 s8 q8 => ?_⟩
      refine ⟨(by show 2 ≤ sizeLine; decide), fun tc gc => ⟨(by show 2 ≤ sizeLine; decide), fun e ge => ?_⟩⟩
      have sc := AT.Same.up (o := .tup [v7, v8]) gc
      have se := AT.Same.up (o := .lst [.ref t3, .ref tc]) ge
      have s7e := ((sb.trans s8).trans sc).trans se
      have sAll := (s56.trans (sa.trans s7)).trans s7e
      refine ⟨F0, e, us, [.ref t3, .ref tc], rfl, rfl, sAll _ _ hF, upd_same, (by simp only [List.length_cons, List.length_nil]; omega), _, _, _, _, us ++ [.ref t3, .ref tc], qs ++ [p1, PL.midP p1 p2], rfl, AT.Same.new (sm.trans sAll) gF0, (by rw [upd_ne nzF]; exact sAll _ _ hz), upd_same, ?_, ?_, ?_, ?_⟩
      · refine LPs.upT ?_ (sameT_set (sAll _ _ hF))
        exact (hq.up sAll).appL (.cons (lp1.up (sm.trans sAll)) (.cons ⟨tc, v7, v8, rfl, se _ _ upd_same, q7.up s7e, (q8.up sc).up se⟩ .nil))
      · intro q hq
        rcases List.mem_append.mp hq with z | z
        · exact hbq q z
        · simp only [List.mem_cons, List.not_mem_nil, or_false] at z
          rcases z with rfl | rfl
          · exact ⟨up b1.1 (by decide), up b1.2 (by decide)⟩
          · exact ⟨up ((b1.1.add b2.1).div small2 (by decide +kernel)) (by decide), up ((b1.2.add b2.2).div small2 (by decide +kernel)) (by decide)⟩
      · rw [hfin, hdr, hdr1, List.append_assoc]
        rfl
      · simp only [List.length_append, List.length_cons, List.length_nil]
        omega
    · obtain ⟨o3, o4, o5, o6, us, qs, rfl, sm, hz, hF, hq, hbq, hfin, hql⟩ := hP
      have hlst : PL.finer (ps.drop (ws.length - 1)) = ps.drop (ws.length - 1) := by
        have : (ps.drop (ws.length - 1)).length ≤ 1 := by rw [List.length_drop]; omega
        cases e : ps.drop (ws.length - 1) with
        | nil => rfl
        | cons a r =>
          cases r with
          | nil => rfl
          | cons b r => rw [e] at this; simp at this
      rw [hlst] at hfin
      have hD' := sm _ _ hD
      have b' := hb.up sm
      have hp' := hp.up sm
      have lu := hq.length
      refine ⟨_, rfl, _, rfl, _, rfl, -1, rfl, D, ws, rfl, SqL.of hD', fun z2 g2 => ?_⟩
      rw [cut_last]
      have s2 := AT.Same.up (o := .lst (ws.drop (ws.length - 1))) g2
      refine ⟨F0, z2, us, _, rfl, rfl, s2 _ _ hF, upd_same, (by rw [List.length_drop]; omega), fun F gF => ?_⟩
      have s3 := AT.Same.up (o := .lst (us ++ ws.drop (ws.length - 1))) gF
      have s23 := s2.trans s3
      have hLF : Lst (upd (upd H' z2 (.lst (ws.drop (ws.length - 1)))) F (.lst (us ++ ws.drop (ws.length - 1)))) F (us ++ ws.drop (ws.length - 1)) (PL.finer ps) := ⟨upd_same, by rw [hfin]; exact (hq.appL (hp'.drop _)).up s23⟩
      have sHF := sm.trans s23
      have gFn : H F = none := none_of (sm.trans s2) gF
      have bF : ∀ q ∈ PL.finer ps, BitsP 64 q := by
        intro q hq
        rw [hfin] at hq
        rcases List.mem_append.mp hq with z | z
        · exact hbq q z
        · have := hbits q (List.mem_of_mem_drop z)
          exact ⟨up this.1 (by decide), up this.2 (by decide)⟩
      have lF := finer_len ps
      have hnb := hb.up sHF
      generalize upd (upd H' z2 (.lst (ws.drop (ws.length - 1)))) F (.lst (us ++ ws.drop (ws.length - 1))) = H3 at hLF sHF hnb ⊢
      have hFp : F ≠ p := by
        rintro rfl
        obtain ⟨_, _, _, e2, _⟩ := hb
        rw [gFn] at e2; cases e2
      have fin0 : ∀ (H4 : Hp), SameX p H3 H4 → BoxAt H4 p (n + 1) → Q (.ref F) H4 := by
        intro H4 x4 b4
        have e : PL.more (PL.finer ps) false = PL.finer ps := rfl
        have := k F _ false H4 ((sameX_of sHF).trans x4) gFn b4 (by rw [e]; exact hLF.upX hnb x4 hFp)
        rw [e] at this
        exact this ⟨rising_of (PL.finer_ris (ris_of hris)), bF, by omega⟩
      have hD3 := sHF _ _ hD
      refine ⟨_, rfl, Nat.zero_le _, fun z3 g3 => ?_⟩
      have s4 := AT.Same.up (o := .lst []) g3
      refine ⟨ws, ⟨D, z3, rfl, rfl, SqL.of (s4 _ _ hD3), SqL.of upd_same⟩, _, rfl, ?_⟩
      cases hw : ws.isEmpty with
      | true => exact iteF (iteF ⟨_, rfl, fin0 _ (sameX_of s4) ((hnb.up s4).mono (by omega))⟩)
      | false =>
        refine iteT ⟨_, rfl, p, _, _, rfl, hnb.up s4, (by omega), (by decide), (by decide +kernel), fun r H5 c1 c2 x5 b5 => ?_⟩
        refine ⟨rfl, _, rfl, ite2 (fun h1 => ?_) (fun h1 => ⟨_, rfl, fin0 H5 ((sameX_of s4).trans x5) b5⟩)⟩
        have np : ps ≠ [] := by
          rintro rfl
          have : ws = [] := List.length_eq_zero_iff.mp hl
          subst this
          simp at hw
        obtain ⟨pl, hpl⟩ : ∃ pl, ps.getLast? = some pl := by
          cases e : ps.getLast? with
          | none => exact absurd (List.getLast?_eq_none_iff.mp e) np
          | some pl => exact ⟨pl, rfl⟩
        have hpi : ps[ps.length - 1]? = some pl := by rw [← List.getLast?_eq_getElem?]; exact hpl
        obtain ⟨vl, ev, lpl⟩ := hp.get hpi
        have evl : ws.getLast? = some vl := by rw [List.getLast?_eq_getElem?, hl]; exact ev
        have x35 : SameX p H3 H5 := (sameX_of s4).trans x5
        have xH5 : SameX p H H5 := (sameX_of sHF).trans x35
        obtain ⟨t3, x3, y3, rfl, ht3, hx3, hy3⟩ := lpl.upT (sameT_box hb xH5)
        have bl := hbits pl (List.mem_of_getElem? hpi)
        have hD5 := xH5 _ _ hDp hD
        have hLF5 := hLF.upX hnb x35 hFp
        have lF5 := hLF5.lps.length
        refine ⟨_, rfl, tyV_lst hLF5.at_, _, rfl, _, rfl, D, _, _, _, rfl, rfl, SqL.of hD5, at_last evl, t3, _, 0, _, rfl, rfl, SqT.of ht3, rfl, (by show 2 ≤ sizeLine; decide), fun ta ga => ?_⟩
        have sa := AT.Same.up (o := .tup [.int 3, .int 1]) ga
        refine ⟨x3, .ref ta, pl.1, 3, rfl, hx3.up sa, ⟨ta, rfl, upd_same⟩, up bl.1 (by decide), up small3 (by decide), fun v6 H6 s6 q6 => ?_⟩
        have sa6 := sa.trans s6
        refine ⟨_, rfl, _, rfl, D, _, _, _, rfl, rfl, SqL.of (sa6 _ _ hD5), at_last evl, t3, _, 1, _, rfl, rfl, SqT.of (sa6 _ _ ht3), rfl, (by show 2 ≤ sizeLine; decide), fun tb gb => ?_⟩
        have sb := AT.Same.up (o := .tup [.int 3, .int 1]) gb
        refine ⟨y3, .ref tb, pl.2, 3, rfl, (hy3.up sa6).up sb, ⟨tb, rfl, upd_same⟩, up bl.2 (by decide), up small3 (by decide), fun v7 H7 s7 q7 => ?_⟩
        refine ⟨(by show 2 ≤ sizeLine; decide), fun tc gc => ?_⟩
        have sc := AT.Same.up (o := .tup [v6, v7]) gc
        have sAll := (sa6.trans (sb.trans s7)).trans sc
        have hF8 := sAll _ _ hLF5.at_
        refine ⟨F, _, _, rfl, rfl, hF8, (by omega), ?_⟩
        have em : PL.more (PL.finer ps) true = PL.finer ps ++ [(pl.1 + 3, pl.2 + 3)] := by
          unfold PL.more
          rw [PL.finer_last, hpl]
        have fl : FinL (PL.more (PL.finer ps) true) := by
          refine ⟨rising_of (PL.more_ris (PL.finer_ris (ris_of hris))), fun q hq => ?_, ?_⟩
          · rw [em] at hq
            rcases List.mem_append.mp hq with z | z
            · exact bF q z
            · rw [List.mem_singleton.mp z]
              exact ⟨up (bl.1.add small3) (by decide), up (bl.2.add small3) (by decide)⟩
          · rw [em, List.length_append]
            simp only [List.length_cons, List.length_nil]
            omega
        refine ⟨_, rfl, k F _ true _ (SameX.new (xH5.trans (sameX_of sAll)) gFn) gFn ((b5.up sAll).new hFp) ⟨upd_same, ?_⟩ fl⟩
        rw [em]
        exact ((hLF5.lps.up sAll).app ⟨tc, v6, v7, rfl, upd_same, (q6.up (sb.trans s7)).up sc, q7.up sc⟩).upT (sameT_set hF8)
end
end K08

set_option maxHeartbeats 4000000
namespace K08
open PySem PySem.Spec PyProof.Rows L2 AT
theorem pairH : (.tup [.int 1, .int 2] : HO) = pairQ (mkRat 1 2) := by
  unfold pairQ
  rw [show (mkRat 1 2).num = 1 by decide +kernel, show (mkRat 1 2).den = 2 by decide +kernel]
  rfl
theorem pairM : (.tup [.int (-1), .int 2] : HO) = pairQ (mkRat (-1) 2) := by
  unfold pairQ
  rw [show (mkRat (-1) 2).num = -1 by decide +kernel, show (mkRat (-1) 2).den = 2 by decide +kernel]
  rfl
theorem smallH : Bits 10 (mkRat 1 2) := ⟨by decide +kernel, by decide +kernel⟩
theorem smallM : Bits 10 (mkRat (-1) 2) := ⟨by decide +kernel, by decide +kernel⟩
theorem small1 : Bits 10 (1 : Rat) := ⟨by decide +kernel, by decide +kernel⟩
abbrev Blw' := PL.Blw
section
variable {P : Program} {w : World} {K : PySem.W.Frag} {mg : Str → Option Value} {base : Heap}
theorem lst_ne_box {H : Hp} {D p : Addr} {ws : List V} {qs : List (Rat × Rat)} {n : Nat} (h : Lst H D ws qs) (b : BoxAt H p n) : D ≠ p := by
  rintro rfl
  obtain ⟨x, y, z, e, _⟩ := b
  have e2 := h.at_
  rw [e] at e2
  cases e2
  cases h.lps with
  | cons l _ =>
    obtain ⟨_, _, _, z, _⟩ := l
    cases z
/-- a list of points that may make a map -/
def Gd (H : Hp) (S : Addr) (v : V) : Prop := ∃ D ws qs, v = .ref D ∧ D ≠ S ∧ Lst H D ws qs ∧ FinL qs
theorem Gd.up {H H' : Hp} {S : Addr} {v : V} (h : Gd H S v) (s : Same H H') : Gd H' S v := by
  obtain ⟨D, ws, qs, e, n, l, f⟩ := h
  exact ⟨D, ws, qs, e, n, l.up s, f⟩
theorem Gd.upX {H H' : Hp} {S p : Addr} {v : V} {n : Nat} (h : Gd H S v) (b : BoxAt H p n) (s : SameX p H H') : Gd H' S v := by
  obtain ⟨D, ws, qs, e, ne, l, f⟩ := h
  exact ⟨D, ws, qs, e, ne, l.upX b s (lst_ne_box l b), f⟩
theorem Gd.set {H : Hp} {S : Addr} {v : V} {ys zs : List V} (h : Gd H S v) (e : H S = some (.lst ys)) : Gd (upd H S (.lst zs)) S v := by
  obtain ⟨D, ws, qs, e1, ne, l, f⟩ := h
  exact ⟨D, ws, qs, e1, ne, ⟨by rw [upd_ne ne]; exact l.at_, l.lps.upT (sameT_set e)⟩, f⟩
def spOth (K : PySem.W.Frag) : Sp := fun vs H Q _ => ∃ (p : Addr) (n : Nat) (m D : Addr) (ws : List V) (ps : List (Rat × Rat)), vs = [.ref p, .ref m, .ref D] ∧ BoxAt H p n ∧ n ≤ 5000 ∧ IsMap K H m (PL.bendF ps) ∧ Lst H D ws ps ∧ FinS ps ∧ D ≠ p ∧
  ∀ H', SameX p H H' → BoxAt H' p (n + 6) → Q (.bl true) H'
theorem sc_w_others_right : FnScope ["_law_bag_here", "_law_tempo", "_law_points_here", "_law_beat", "_law_second", "_law_some", "_law_turn", "_law_at", "_law_here", "_law_point", "_law_less_here", "_law_more", "_law_one", "_law_two", "_law_other", "_law_even"] ["_law_bag_here", "_law_tempo", "_law_points_here"] (defScope s_w_others_right) := ⟨rfl, rfl, rfl, by decide +kernel, rfl, by decide +kernel, by decide +kernel⟩
theorem ok_w_others_right (T : Tx K mg base) : Ok P w K mg base 14 (d_w_others_right.loc K) ["_law_bag_here", "_law_tempo", "_law_points_here"] (spOth K) := by
  refine mk_ok (k := 13) T.f_w_others_right sc_w_others_right (fun _ _ _ _ _ _ us hl => match us, hl with | [_, _, _], _ => rfl) (fun vs H Q E h => ?_) (fun cdv A outer s H vs Q E hr h => ?_)
  · obtain ⟨p, n, m, D, ws, ps, rfl, _⟩ := h
    rfl
  · obtain ⟨p, n, m, D, ws, ps, rfl, hb, hn, hm, hL, hF, hDp, k⟩ := h
    refine ⟨_, (pss_cons (ps_set (i := 5) sc_w_others_right.nd rfl (Or.inl rfl) (pe_lst (pa_cons (pe_lc (own := [("_law_beat", 3), ("_law_second", 4)]) (g := (gTup K 2 (gCons (gName 3) (gCons (gName 4) gNil)))) (tt := tYes) (by rfl) sc_w_others_right.nd (pi_list (pv 2)) (blkOk_by (own := [("_law_beat", 3), ("_law_second", 4)]) (N := ["_law_bag_here", "_law_tempo", "_law_points_here", "_law_beat", "_law_second", "_law_some", "_law_turn", "_law_at", "_law_here", "_law_point", "_law_less_here", "_law_more", "_law_one", "_law_two", "_law_other", "_law_even"]) (sc := defScope s_w_others_right) (by decide +kernel)) (fun _ _ _ _ _ => (pg_tup rfl (pgs_cons (pg_name (i := 3) sc_w_others_right.nd rfl (Or.inl rfl)) (pgs_cons (pg_name (i := 4) sc_w_others_right.nd rfl (Or.inl rfl)) pgs_nil)))) (fun _ _ _ _ _ => pts_nil) (fun _ _ _ _ _ => (pe_tup (pa_cons (pv 3) (pa_cons (ok_call (ok_w_sum T) (hr.mono (by decide)) rfl T.g_w_sum passL (pa_cons (pv 4) (pa_cons (pe_tup (pa_cons pe_int (pa_cons pe_int pa_nil))) pa_nil))) pa_nil))))) pa_nil)))
      (pss_cons (ps_expr (pe_bm PySem.F.plainAttrs_list PySem.F.slot_list_append PySem.F.type_list_append mt_append (pv 5) (pa_cons (pe_lc (own := [("_law_beat", 3), ("_law_second", 4)]) (g := (gTup K 2 (gCons (gName 3) (gCons (gName 4) gNil)))) (tt := tYes) (by rfl) sc_w_others_right.nd (pi_list (pv 2)) (blkOk_by (own := [("_law_beat", 3), ("_law_second", 4)]) (N := ["_law_bag_here", "_law_tempo", "_law_points_here", "_law_beat", "_law_second", "_law_some", "_law_turn", "_law_at", "_law_here", "_law_point", "_law_less_here", "_law_more", "_law_one", "_law_two", "_law_other", "_law_even"]) (sc := defScope s_w_others_right) (by decide +kernel)) (fun _ _ _ _ _ => (pg_tup rfl (pgs_cons (pg_name (i := 3) sc_w_others_right.nd rfl (Or.inl rfl)) (pgs_cons (pg_name (i := 4) sc_w_others_right.nd rfl (Or.inl rfl)) pgs_nil)))) (fun _ _ _ _ _ => pts_nil) (fun _ _ _ _ _ => (pe_tup (pa_cons (ok_call (ok_w_sum T) (hr.mono (by decide)) rfl T.g_w_sum passL (pa_cons (pv 3) (pa_cons (pe_tup (pa_cons pe_int (pa_cons pe_int pa_nil))) pa_nil))) (pa_cons (pv 4) pa_nil))))) pa_nil)))
      (pss_cons (ps_for (passes_of rfl) rfl (pi_range1 (by rfl) T.b_range (pa_cons (pe_op op_mulW pe_int (pe_callTy call_int1 (by rfl) T.b_int (by decide +kernel) (pa_cons (pe_cmpR (show OpR _ _ (rNeE K) from op_neE hr.units) (pv 2) (pe_lst pa_nil) (nomark _)) pa_nil))) pa_nil)) (pg_name (i := 6) sc_w_others_right.nd rfl (Or.inl rfl)) (pss_cons (ps_par (by rfl) sc_w_others_right.nd (i := 7) (j := 8) rfl rfl (by decide) rfl rfl (pa_cons (ok_call (ok_w_take T) (hr.mono (by decide)) rfl T.g_w_take passL (pa_cons (pv 0) (pa_cons (pe_callB call_len_seq (by rfl) T.b_len (by decide +kernel) (pa_cons (pv 2) pa_nil)) pa_nil))) (pa_cons (ok_call (ok_w_take T) (hr.mono (by decide)) rfl T.g_w_take passL (pa_cons (pv 0) (pa_cons pe_int pa_nil))) pa_nil)) (by rfl))
      (pss_cons (ps_set (i := 9) sc_w_others_right.nd rfl (Or.inl rfl) (pe_lst (pa_cons (pe_ix ix_tup (pe_ix ix_list (pv 2) (pv 7) (fun _ _ => rfl)) pe_int (fun _ _ => rfl)) (pa_cons (pe_ix ix_tup (pe_ix ix_list (pv 2) (pv 7) (fun _ _ => rfl)) pe_int (fun _ _ => rfl)) pa_nil))))
      (pss_cons (ps_set (i := 10) sc_w_others_right.nd rfl (Or.inl rfl) (ok_call (ok_w_sum T) (hr.mono (by decide)) rfl T.g_w_sum passL (pa_cons (pe_ix ix_list (pv 9) (pv 8) (fun _ _ => rfl)) (pa_cons (pe_tup (pa_cons (pe_un un_neg pe_int) (pa_cons pe_int pa_nil))) pa_nil))))
      (Evl.pss_cut (ps_if (pt_cmpR op_gt (pv 7) pe_int (nomark _)) (pss_one (ps_set (i := 10) sc_w_others_right.nd rfl (Or.inl rfl) (ok_call (ok_w_quotient T) (hr.mono (by decide)) rfl T.g_w_quotient passL (pa_cons (ok_call (ok_w_sum T) (hr.mono (by decide)) rfl T.g_w_sum passL (pa_cons (pe_ix ix_list (pv 9) (pv 8) (fun _ _ => rfl)) (pa_cons (pe_ix ix_tup (pe_ix ix_list (pv 2) (pe_op op_sub (pv 7) pe_int) (fun _ _ => rfl)) (pv 8) (fun _ _ => rfl)) pa_nil))) (pa_cons (pe_tup (pa_cons pe_int (pa_cons pe_int pa_nil))) pa_nil))))) pss_nil)
      (pss_cons (ps_asg (pv 10) (pg_sub (pv 9) (pv 8) set_list))
      (pss_one (ps_expr (pe_bm PySem.F.plainAttrs_list PySem.F.slot_list_append PySem.F.type_list_append mt_append (pv 5) (pa_cons (pe_op op_cat (pe_op op_cat (pe_slice sl_list (pv 2) po_none (po_some (pv 7))) (pe_lst (pa_cons (pe_tup (pa_cons (pe_ix ix_list (pv 9) pe_int (fun _ _ => rfl)) (pa_cons (pe_ix ix_list (pv 9) pe_int (fun _ _ => rfl)) pa_nil))) pa_nil))) (pe_slice sl_list (pv 2) (po_some (pe_op op_add (pv 7) pe_int)) po_none)) pa_nil))))))))))
      (pss_cons (ps_for (passes_of rfl) rfl (pi_list (pe_op op_cat (pv 5) (pe_lst (pa_cons (pe_lst pa_nil) (pa_cons (pe_lst (pa_cons (pe_tup (pa_cons (pe_tup (pa_cons pe_int (pa_cons pe_int pa_nil))) (pa_cons (pe_tup (pa_cons pe_int (pa_cons pe_int pa_nil))) pa_nil))) pa_nil)) pa_nil))))) (pg_name (i := 11) sc_w_others_right.nd rfl (Or.inl rfl)) (pss_cons (ps_set (i := 14) sc_w_others_right.nd rfl (Or.inl rfl) (ok_make T.mkr_TempoMap (ok_TempoMap_init_ T) (hr.mono (by decide)) rfl T.g_TempoMap (passE rfl rfl rfl rfl) (pa_cons (pe_lc (own := [("_law_one", 12), ("_law_two", 13)]) (g := (gTup K 2 (gCons (gName 12) (gCons (gName 13) gNil)))) (tt := tYes) (by rfl) sc_w_others_right.nd (pi_list (pv 11)) (blkOk_by (own := [("_law_one", 12), ("_law_two", 13)]) (N := ["_law_bag_here", "_law_tempo", "_law_points_here", "_law_beat", "_law_second", "_law_some", "_law_turn", "_law_at", "_law_here", "_law_point", "_law_less_here", "_law_more", "_law_one", "_law_two", "_law_other", "_law_even"]) (sc := defScope s_w_others_right) (by decide +kernel)) (fun _ _ _ _ _ => (pg_tup rfl (pgs_cons (pg_name (i := 12) sc_w_others_right.nd rfl (Or.inl rfl)) (pgs_cons (pg_name (i := 13) sc_w_others_right.nd rfl (Or.inl rfl)) pgs_nil)))) (fun _ _ _ _ _ => pts_nil) (fun _ _ _ _ _ => (pe_tup (pa_cons (ok_make T.mkr_Amount (ok_Amount_init_ T) (hr.mono (by decide)) rfl T.g_Amount passL (pa_cons (pe_ix (show IxR _ (rIxT K) from ix_tup) (pv 12) pe_int (fun _ _ => rfl)) (pa_cons (pe_ix (show IxR _ (rIxT K) from ix_tup) (pv 12) pe_int (fun _ _ => rfl)) pa_nil))) (pa_cons (ok_make T.mkr_Amount (ok_Amount_init_ T) (hr.mono (by decide)) rfl T.g_Amount passL (pa_cons (pe_ix (show IxR _ (rIxT K) from ix_tup) (pv 13) pe_int (fun _ _ => rfl)) (pa_cons (pe_ix (show IxR _ (rIxT K) from ix_tup) (pv 13) pe_int (fun _ _ => rfl)) pa_nil))) pa_nil))))) pa_nil)))
      (pss_cons (ps_set (i := 15) sc_w_others_right.nd rfl (Or.inl rfl) (pe_cmpR (op_eqD hr.units) (ok_call (ok_w_bends T) (hr.mono (by decide)) rfl T.g_w_bends passL (pa_cons (pv 11) pa_nil)) (ok_call (ok_w_bends T) (hr.mono (by decide)) rfl T.g_w_bends passL (pa_cons (pv 2) pa_nil)) (nomark _)))
      (pss_one (ps_if (PW.pt (pw_or (pt_cmpR op_ne (pe_cmpR (op_eqO T.eq_TempoMap (ok_TempoMap_eq_ T) (hr.mono (by decide)) passL) (pv 14) (pv 1) (nomark _)) (pv 15) (nomark _)) (pw_or (pt_cmpR op_ne (pe_cmpR (op_eqO T.eq_TempoMap (ok_TempoMap_eq_ T) (hr.mono (by decide)) passL) (pv 1) (pv 14) (nomark _)) (pv 15) (nomark _)) (pw_or1 (pt_cmpR op_eq (pe_cmpR (op_neO T.eq_TempoMap (ok_TempoMap_eq_ T) (hr.mono (by decide)) passL) (pv 1) (pv 14) (nomark _)) (pv 15) (nomark _)))))) (pss_one (ps_ret pe_bl)) pss_nil)))))
      (pss_one (ps_ret pe_bl)))))), ?_⟩
    have hsz : sizeLine = 16777216 := sizeLine_eq
    have hris := ris_of hF.1
    have up : ∀ {q : Rat} {m k : Nat}, Bits m q → m ≤ k → Bits k q := fun h l => h.mono l
    have hl := hL.lps.length
    have hlen := hF.2.2
    refine ⟨_, rfl, D, rfl, ⟨_, SqL.of hL.at_⟩, fun E1 gE1 => ?_⟩
    refine lc_list (K := K) (a := D) (xs := ws) (fun j Hj => Same H Hj ∧ ∃ acc, Hj E1 = some (.lst acc) ∧ LPs Hj acc ((ps.take j).map fun p => (p.1 + 0, p.2 + 1))) ⟨AT.Same.up gE1, [], upd_same, .nil⟩ (fun j Hj _ h => SqL.of (h.1 _ _ hL.at_)) (fun j x Hj hx hP => ?_) (fun HA hP => ?_)
    · obtain ⟨q, eq, t, x1, y1, rfl, ht, hx1, hy1⟩ := hL.lps.at hx
      obtain ⟨sj, acc, hacc, hlp⟩ := hP
      have bq := hF.2.1 q (List.mem_of_getElem? eq)
      refine ⟨t, _, rfl, SqT.of (sj _ _ ht), rfl, _, _, rfl, _, _, rfl, rfl, rfl, ?_⟩
      dsimp only [tYes]
      refine iteT ⟨_, rfl, _, rfl, (by show 2 ≤ sizeLine; decide), fun ta ga => ?_⟩
      have sa := AT.Same.up (o := .tup [.int 1, .int 1]) ga
      refine ⟨y1, .ref ta, q.2, 1, rfl, (hy1.up sj).up sa, ⟨ta, rfl, upd_same⟩, up bq.2 (by decide), up small1 (by decide), fun v5 H5 s5 q5 => ?_⟩
      refine ⟨(by show 2 ≤ sizeLine; decide), fun tt gt => ?_⟩
      have sT := AT.Same.up (o := .tup [x1, v5]) gt
      have s56 := (sa.trans s5).trans sT
      have lu := hlp.length
      rw [List.length_map, List.length_take] at lu
      refine ⟨acc, s56 _ _ hacc, (by omega), AT.Same.new (sj.trans s56) gE1, acc ++ [.ref tt], upd_same, ?_⟩
      rw [List.take_add_one, eq, List.map_append]
      refine ((hlp.up s56).app ⟨tt, x1, v5, rfl, upd_same, ?_, q5.up sT⟩).upT (sameT_set (s56 _ _ hacc))
      have e0 : q.1 + 0 = q.1 := by grind
      show PQ _ x1 (q.1 + 0)
      rw [e0]
      exact hx1.up (sj.trans s56)
    obtain ⟨sA, as1, hE1, lp1⟩ := hP
    rw [hl, List.take_length] at lp1
    have fin1 : FinL (ps.map fun p => (p.1 + 0, p.2 + 1)) := by
      refine ⟨rising_of (PL.ris_map hris), fun q hq => ?_, by rw [List.length_map]; omega⟩
      obtain ⟨z, hz, rfl⟩ := List.mem_map.mp hq
      have := hF.2.1 z hz
      exact ⟨by show Bits 64 (z.1 + 0); rw [show z.1 + 0 = z.1 by grind]; exact up this.1 (by decide), up (this.2.add small1) (by decide)⟩
    refine ⟨(by show 1 ≤ sizeLine; decide), fun S gS => ?_⟩
    have sS := AT.Same.up (o := .lst [.ref E1]) gS
    have gSn := none_of sA gS
    have gd1 : Gd (upd HA S (.lst [.ref E1])) S (.ref E1) := ⟨E1, as1, _, rfl, (by rintro rfl; rw [hE1] at gS; cases gS), ⟨sS _ _ hE1, lp1.up sS⟩, fin1⟩
    have hS : upd HA S (.lst [.ref E1]) S = some (.lst [.ref E1]) := upd_same
    have sHA := sA.trans sS
    generalize upd HA S (.lst [.ref E1]) = HB at gd1 hS sHA ⊢
    clear lp1 hE1 sS sA gS
    have hLB := hL.up sHA
    refine ⟨_, rfl, tyV_lst hS, _, rfl, D, rfl, ⟨_, SqL.of hLB.at_⟩, fun E2 gE2 => ?_⟩
    refine lc_list (K := K) (a := D) (xs := ws) (fun j Hj => Same HB Hj ∧ ∃ acc, Hj E2 = some (.lst acc) ∧ LPs Hj acc ((ps.take j).map fun p => (p.1 + mkRat 1 2, p.2 + 0))) ⟨AT.Same.up gE2, [], upd_same, .nil⟩ (fun j Hj _ h => SqL.of (h.1 _ _ hLB.at_)) (fun j x Hj hx hP => ?_) (fun HC hP => ?_)
    · obtain ⟨q, eq, t, x1, y1, rfl, ht, hx1, hy1⟩ := hLB.lps.at hx
      obtain ⟨sj, acc, hacc, hlp⟩ := hP
      have bq := hF.2.1 q (List.mem_of_getElem? eq)
      refine ⟨t, _, rfl, SqT.of (sj _ _ ht), rfl, _, _, rfl, _, _, rfl, rfl, rfl, ?_⟩
      dsimp only [tYes]
      refine iteT ⟨_, rfl, (by show 2 ≤ sizeLine; decide), fun ta ga => ?_⟩
      have sa := AT.Same.up (o := .tup [.int 1, .int 2]) ga
      refine ⟨x1, .ref ta, q.1, mkRat 1 2, rfl, (hx1.up sj).up sa, ⟨ta, rfl, by rw [← pairH]; exact upd_same⟩, up bq.1 (by decide), up smallH (by decide), fun v5 H5 s5 q5 => ?_⟩
      refine ⟨_, rfl, (by show 2 ≤ sizeLine; decide), fun tt gt => ?_⟩
      have sT := AT.Same.up (o := .tup [v5, y1]) gt
      have s56 := (sa.trans s5).trans sT
      have lu := hlp.length
      rw [List.length_map, List.length_take] at lu
      refine ⟨acc, s56 _ _ hacc, (by omega), AT.Same.new (sj.trans s56) gE2, acc ++ [.ref tt], upd_same, ?_⟩
      rw [List.take_add_one, eq, List.map_append]
      refine ((hlp.up s56).app ⟨tt, v5, y1, rfl, upd_same, q5.up sT, ?_⟩).upT (sameT_set (s56 _ _ hacc))
      have e0 : q.2 + 0 = q.2 := by grind
      show PQ _ y1 (q.2 + 0)
      rw [e0]
      exact hy1.up (sj.trans s56)
    obtain ⟨sC, as2, hE2, lp2⟩ := hP
    rw [hl, List.take_length] at lp2
    have fin2 : FinL (ps.map fun p => (p.1 + mkRat 1 2, p.2 + 0)) := by
      refine ⟨rising_of (PL.ris_map hris), fun q hq => ?_, by rw [List.length_map]; omega⟩
      obtain ⟨z, hz, rfl⟩ := List.mem_map.mp hq
      have := hF.2.1 z hz
      exact ⟨up (this.1.add smallH) (by decide), by show Bits 64 (z.2 + 0); rw [show z.2 + 0 = z.2 by grind]; exact up this.2 (by decide)⟩
    have hSC := sC _ _ hS
    have nE2 : E2 ≠ S := by rintro rfl; rw [hS] at gE2; cases gE2
    refine ⟨S, [.ref E1], _, rfl, rfl, hSC, (by rw [hsz]; simp), ?_⟩
    have gds : ∀ v ∈ [.ref E1] ++ [.ref E2], Gd (upd HC S (.lst ([.ref E1] ++ [.ref E2]))) S v := by
      intro v hv
      simp only [List.cons_append, List.nil_append, List.mem_cons, List.not_mem_nil, or_false] at hv
      rcases hv with rfl | rfl
      · exact (gd1.up sC).set hSC
      · exact Gd.set ⟨E2, as2, _, rfl, nE2, ⟨hE2, lp2⟩, fin2⟩ hSC
    have hSD : upd HC S (.lst ([.ref E1] ++ [.ref E2])) S = some (.lst ([.ref E1] ++ [.ref E2])) := upd_same
    have sHD : Same H (upd HC S (.lst ([.ref E1] ++ [.ref E2]))) := AT.Same.new (sHA.trans sC) gSn
    generalize upd HC S (.lst ([.ref E1] ++ [.ref E2])) = HD at gds hSD sHD ⊢
    clear gd1 lp2 hE2 sC hSC hS hLB sHA gE2
    have bD := hb.up sHD
    have hSp : S ≠ p := box_ne hb gSn
    have hLD := hL.up sHD
    -- the turns
    refine ⟨_, rfl, Nat.zero_le _, fun z gz => ?_⟩
    have sz := AT.Same.up (o := .lst []) gz
    refine ⟨ws, ⟨D, z, rfl, rfl, SqL.of (sz _ _ hLD.at_), SqL.of upd_same⟩, ?_⟩
    obtain ⟨c, ec, c0, c3, cw⟩ : ∃ c : Int, c = 3 * (if (!ws.isEmpty) = true then 1 else 0) ∧ 0 ≤ c ∧ c ≤ 3 ∧ (0 < c → ws ≠ []) := by
      refine ⟨_, rfl, ?_, ?_, ?_⟩
      · split <;> decide
      · split <;> decide
      · split
        · rename_i h
          rintro _ rfl
          simp at h
        · intro h
          exact absurd h (by decide)
    have bz := bD.up sz
    have sHz := sHD.trans sz
    refine .inr ⟨_, rfl, _, _, rfl, rfl, wide_mul (a := 10) (b := 10) (by decide) (by split <;> decide) (by decide) (by decide) (by decide), c, (by rw [ec]), (by omega), (by omega), for_range (lo := 0) (n := c.toNat) (fun i σ' H' => ∃ o6 o7 o8 o9 o10 items, σ' = ([some (.ref p), some (.ref m), some (.ref D), none, none, some (.ref S), o6, o7, o8, o9, o10, none, none, none, none, none] : L2.St) ∧ SameX p H H' ∧ BoxAt H' p (n + 2 * i) ∧ H' S = some (.lst items) ∧ items.length ≤ 2 + i ∧ ∀ v ∈ items, Gd H' S v) ⟨_, _, _, _, _, _, rfl, sameX_of sHz, bz, sz _ _ hSD, by simp, fun v hv => (gds v hv).up sz⟩ (fun i σ' H' hi hP => ?_) (fun σ' H' hP => ?_)⟩
    · obtain ⟨o6, o7, o8, o9, o10, items, rfl, x, b, hS, hil, hgd⟩ := hP
      have wne := cw (by omega)
      have hlw : 0 < ws.length := List.length_pos_iff.mpr wne
      have hL' : Lst H' D ws ps := hL.upX hb x hDp
      refine ⟨_, rfl, _, rfl, D, ws, rfl, .inl (SqL.of hL'.at_), p, _, _, rfl, b, (by omega), (by omega), big (by omega), fun r1 H1 a1 a2 x1 b1 => ?_⟩
      refine ⟨_, rfl, p, _, _, rfl, b1, (by omega), (by decide), (by decide +kernel), fun r2 H2 e1 e2 x2 b2 => ?_⟩
      obtain ⟨kk, rfl⟩ := Int.eq_ofNat_of_zero_le a1
      obtain ⟨h, rfl⟩ : ∃ h : Bool, r2 = cInt h := by
        rcases (show r2 = 0 ∨ r2 = 1 by omega) with rfl | rfl
        · exact ⟨false, rfl⟩
        · exact ⟨true, rfl⟩
      have hkk : kk < ws.length := by omega
      have x12 := x1.trans x2
      have xH2 := x.trans x12
      have hL2 : Lst H2 D ws ps := hL.upX hb xH2 hDp
      have hS2 := x12 _ _ hSp hS
      have hgd2 : ∀ v ∈ items, Gd H2 S v := fun v hv => ((hgd v hv).upX b x1).upX b1 x2
      refine ⟨_, _, rfl, ?_⟩
      obtain ⟨q, eq, t, cx, cy, et, ht, hcx, hcy⟩ := hL2.lps.at (List.getElem?_eq_getElem hkk)
      have hv : ws[kk]? = some (.ref t) := by rw [← et]; exact List.getElem?_eq_getElem hkk
      have bq := hF.2.1 q (List.mem_of_getElem? eq)
      refine ⟨_, rfl, _, rfl, D, _, _, _, rfl, rfl, SqL.of hL2.at_, atI_nat hv, t, _, 0, _, rfl, rfl, SqT.of ht, rfl, _, rfl, _, rfl, D, _, _, _, rfl, rfl, SqL.of hL2.at_, atI_nat hv, t, _, 1, _, rfl, rfl, SqT.of ht, rfl, (by show 2 ≤ sizeLine; decide), fun B gB => ?_⟩
      have sB := AT.Same.up (o := .lst [cx, cy]) gB
      have hB : upd H2 B (.lst [cx, cy]) B = some (.lst [cx, cy]) := upd_same
      have gBn : H B = none := new_x xH2 b2 gB
      have nBS : B ≠ S := by rintro rfl; rw [hS2] at gB; cases gB
      generalize upd H2 B (.lst [cx, cy]) = H3 at sB hB ⊢
      have hcv : ∃ cv, atI [cx, cy] (cInt h) = some cv ∧ PQ H3 cv (crd h q) := by
        cases h with
        | false => exact ⟨cx, rfl, hcx.up sB⟩
        | true => exact ⟨cy, rfl, hcy.up sB⟩
      obtain ⟨cv, ecv, pcv⟩ := hcv
      refine ⟨_, rfl, _, rfl, B, _, _, cv, rfl, rfl, SqL.of hB, ecv, _, rfl, (by show 2 ≤ sizeLine; decide), fun ta ga => ?_⟩
      have sa := AT.Same.up (o := .tup [.int (-1), .int 2]) ga
      refine ⟨cv, .ref ta, crd h q, mkRat (-1) 2, rfl, pcv.up sa, ⟨ta, rfl, by rw [← pairM]; exact upd_same⟩, up (bq.crd h) (by decide), up smallM (by decide), fun v5 H5 s5 q5 => ?_⟩
      have s35 := sa.trans s5
      have bw : ∀ prev, (ps.take kk).getLast? = some prev → Blw' prev q := fun prev hpv => by
        have e : ps = ps.take kk ++ q :: ps.drop (kk + 1) := by
          have h1 : kk < ps.length := (List.getElem?_eq_some_iff.mp eq).1
          rw [List.getElem?_eq_getElem h1] at eq
          cases eq
          rw [← List.drop_eq_getElem_cons h1, List.take_append_drop]
        rw [e] at hris
        exact PL.ris_before hris hpv
      refine ⟨fun σ' H6 => ∃ v10 y, σ' = ([some (.ref p), some (.ref m), some (.ref D), none, none, some (.ref S), some (.int (0 + (i : Int))), some (.int kk), some (.int (cInt h)), some (.ref B), some v10, none, none, none, none, none] : L2.St) ∧ Same H3 H6 ∧ PQ H6 v10 y ∧ Bits 64 y ∧ y ≤ crd h q ∧ ∀ prev, (ps.take kk).getLast? = some prev → crd h prev < y, ?_, ?_⟩
      · refine ⟨_, rfl, _, _, rfl, rfl, _, rfl, ite2 (fun h1 => ?_) (fun h1 => ?_)⟩
        · have h1' : 0 < (kk : Int) := of_decide_eq_true h1
          obtain ⟨k', rfl⟩ : ∃ k', kk = k' + 1 := ⟨kk - 1, by omega⟩
          have h5 := hL2.up (sB.trans s35)
          obtain ⟨p0, ep0, t0, px, py, et0, ht0, hpx, hpy⟩ := h5.lps.at (List.getElem?_eq_getElem (show k' < ws.length by omega))
          have hv0 : ws[k']? = some (.ref t0) := by rw [← et0]; exact List.getElem?_eq_getElem (by omega)
          have b0 := hF.2.1 p0 (List.mem_of_getElem? ep0)
          have hpv : ∃ pv, atI [px, py] (cInt h) = some pv ∧ PQ H5 pv (crd h p0) := by
            cases h with
            | false => exact ⟨px, rfl, hpx⟩
            | true => exact ⟨py, rfl, hpy⟩
          obtain ⟨pv, epv, ppv⟩ := hpv
          have hlast : (ps.take (k' + 1)).getLast? = some p0 := by
            rw [List.take_add_one, ep0]
            simp
          have hb0 := bw p0 hlast
          have hlt : crd h p0 < crd h q := by
            cases h with
            | false => exact hb0.1
            | true => exact hb0.2
          refine ⟨_, rfl, _, rfl, B, _, _, cv, rfl, rfl, SqL.of (s35 _ _ hB), ecv, _, rfl, _, rfl, _, _, rfl, rfl, D, _, _, _, rfl, rfl, SqL.of h5.at_, (by rw [show ((k' + 1 : Nat) : Int) - 1 = (k' : Int) by omega]; exact atI_nat hv0), _, rfl, t0, _, _, pv, rfl, rfl, SqT.of ht0, epv, cv, pv, crd h q, crd h p0, rfl, pcv.up s35, ppv, up (bq.crd h) (by decide), up (b0.crd h) (by decide), fun v6 H6 s6 q6 => ?_⟩
          refine ⟨(by show 2 ≤ sizeLine; decide), fun tb gb => ?_⟩
          have sb := AT.Same.up (o := .tup [.int 2, .int 1]) gb
          refine ⟨v6, .ref tb, _, 2, rfl, q6.up sb, ⟨tb, rfl, upd_same⟩, up ((bq.crd h).add (b0.crd h)) (by decide), up small2 (by decide), (by decide +kernel), fun v7 H7 s7 q7 => ?_⟩
          refine ⟨v7, _, rfl, (s35.trans s6).trans (sb.trans s7), q7, up (((bq.crd h).add (b0.crd h)).div small2 (by decide +kernel)) (by decide), ?_, fun prev hp0 => ?_⟩
          · grind
          · rw [hlast] at hp0
            cases hp0
            grind
        · have h1' : ¬ 0 < (kk : Int) := fun z => h1 (decide_eq_true z)
          have k0 : kk = 0 := by omega
          subst k0
          refine ⟨v5, _, rfl, s35, q5, up ((bq.crd h).add smallM) (by decide), ?_, fun prev hp0 => ?_⟩
          · have : mkRat (-1) 2 ≤ 0 := by decide +kernel
            show crd h q + mkRat (-1) 2 ≤ crd h q
            grind
          · simp at hp0
      · rintro σ' H6 ⟨v10, y, rfl, s6, q10, by10, hy, hprev⟩
        have sB6 := sB.trans s6
        have hS6 := sB6 _ _ hS2
        have hL6 := hL2.up sB6
        have hB6 := s6 _ _ hB
        have hset : ∃ j w1 w2 q', ixN [cx, cy].length (cInt h) = some j ∧ [cx, cy].set j v10 = [w1, w2] ∧ PQ H6 w1 q'.1 ∧ PQ H6 w2 q'.2 ∧ BitsP 64 q' ∧ q'.1 ≤ q.1 ∧ q'.2 ≤ q.2 ∧ ∀ prev, (ps.take kk).getLast? = some prev → Blw' prev q' := by
          cases h with
          | false => exact ⟨0, v10, cy, (y, q.2), rfl, rfl, q10, hcy.up sB6, ⟨by10, up bq.2 (by decide)⟩, hy, Rat.le_refl, fun prev hp0 => ⟨hprev prev hp0, (bw prev hp0).2⟩⟩
          | true => exact ⟨1, cx, v10, (q.1, y), rfl, rfl, hcx.up sB6, q10, ⟨up bq.1 (by decide), by10⟩, Rat.le_refl, hy, fun prev hp0 => ⟨(bw prev hp0).1, hprev prev hp0⟩⟩
        obtain ⟨j, w1, w2, q', ej, es, pw1, pw2, bq', hq1, hq2, hbw⟩ := hset
        refine ⟨_, rfl, _, rfl, _, rfl, B, _, _, j, rfl, rfl, hB6, ej, ?_⟩
        rw [es]
        have tB := sameT_set (zs := [w1, w2]) hB6
        have hB7 : upd H6 B (.lst [w1, w2]) B = some (.lst [w1, w2]) := upd_same
        have hS7 : upd H6 B (.lst [w1, w2]) S = some (.lst items) := by rw [upd_ne (Ne.symm nBS)]; exact hS6
        have nBD : D ≠ B := by rintro rfl; rw [hL2.at_] at gB; cases gB
        have hL7 : Lst (upd H6 B (.lst [w1, w2])) D ws ps := ⟨by rw [upd_ne nBD]; exact hL6.at_, hL6.lps.upT tB⟩
        have x7 : SameX p H (upd H6 B (.lst [w1, w2])) := SameX.new (xH2.trans (sameX_of sB6)) gBn
        have b7 : BoxAt (upd H6 B (.lst [w1, w2])) p (n + 2 * i + 1 + 1) := (b2.up sB6).new (box_ne b2 gB)
        have gd7 : ∀ v ∈ items, Gd (upd H6 B (.lst [w1, w2])) S v := by
          intro v hv
          obtain ⟨D', ws', qs', e, ne, l, f⟩ := (hgd2 v hv).up sB6
          refine ⟨D', ws', qs', e, ne, ⟨?_, l.lps.upT tB⟩, f⟩
          obtain ⟨D2, ws2, qs2, e2, _, l2, _⟩ := hgd2 v hv
          rw [e] at e2
          cases e2
          rw [upd_ne (by rintro rfl; rw [l2.at_] at gB; cases gB)]
          exact l.at_
        have pw1 := pw1.upT tB
        have pw2 := pw2.upT tB
        generalize upd H6 B (.lst [w1, w2]) = H7 at hB7 hS7 hL7 x7 b7 gd7 pw1 pw2 ⊢
        refine ⟨_, rfl, tyV_lst hS7, _, rfl, _, rfl, _, rfl, D, ws, rfl, SqL.of hL7.at_, fun z1 g1 => ?_⟩
        rw [cut_to]
        have t1 := AT.Same.up (o := .lst (ws.take kk)) g1
        refine ⟨_, rfl, B, _, 0, _, rfl, rfl, SqL.of (t1 _ _ hB7), rfl, _, rfl, B, _, 1, _, rfl, rfl, SqL.of (t1 _ _ hB7), rfl, (by show 2 ≤ sizeLine; decide), fun tp gp => ⟨(by show 1 ≤ sizeLine; decide), fun e ge => ?_⟩⟩
        have t2 := AT.Same.up (o := .tup [w1, w2]) gp
        have t3 := AT.Same.up (o := .lst [.ref tp]) ge
        refine ⟨z1, e, _, _, rfl, rfl, (t2.trans t3) _ _ upd_same, upd_same, (by rw [List.length_take]; simp only [List.length_cons, List.length_nil]; omega), fun z2 g2 => ?_⟩
        have t4 := AT.Same.up (o := .lst (ws.take kk ++ [.ref tp])) g2
        have t14 := (t1.trans t2).trans (t3.trans t4)
        refine ⟨_, rfl, _, rfl, _, _, rfl, rfl, _, rfl, D, ws, rfl, SqL.of (t14 _ _ hL7.at_), fun z3 g3 => ?_⟩
        rw [show ((kk : Nat) : Int) + 1 = ((kk + 1 : Nat) : Int) by omega, cut_from]
        have t5 := AT.Same.up (o := .lst (ws.drop (kk + 1))) g3
        refine ⟨z2, z3, _, _, rfl, rfl, t5 _ _ upd_same, upd_same, (by rw [List.length_append, List.length_take, List.length_drop]; simp only [List.length_cons, List.length_nil]; omega), fun z4 g4 => ?_⟩
        have t6 := AT.Same.up (o := .lst (ws.take kk ++ [.ref tp] ++ ws.drop (kk + 1))) g4
        have t16 := t14.trans (t5.trans t6)
        have hS8 := t16 _ _ hS7
        have gz4 : H7 z4 = none := none_of (t14.trans t5) g4
        have nz4 : z4 ≠ S := by rintro rfl; rw [hS7] at gz4; cases gz4
        have lp8 : LPs _ (ws.take kk ++ [.ref tp] ++ ws.drop (kk + 1)) (ps.take kk ++ [q'] ++ ps.drop (kk + 1)) := (((hL7.lps.up t16).take kk).appL (.cons ⟨tp, w1, w2, rfl, ((t3.trans t4).trans (t5.trans t6)) _ _ upd_same, pw1.up t16, pw2.up t16⟩ .nil)).appL ((hL7.lps.up t16).drop (kk + 1))
        have f8 : FinL (ps.take kk ++ [q'] ++ ps.drop (kk + 1)) := by
          refine ⟨?_, fun z hz => ?_, ?_⟩
          · have e : ps = ps.take kk ++ q :: ps.drop (kk + 1) := by
              have h1 : kk < ps.length := (List.getElem?_eq_some_iff.mp eq).1
              rw [List.getElem?_eq_getElem h1] at eq
              cases eq
              rw [← List.drop_eq_getElem_cons h1, List.take_append_drop]
            have hr2 := hris
            rw [e] at hr2
            rw [List.append_assoc]
            exact rising_of (PL.ris_repl hr2 hbw hq1 hq2)
          · simp only [List.mem_append, List.mem_singleton] at hz
            rcases hz with (hz | rfl) | hz
            · have := hF.2.1 z (List.mem_of_mem_take hz)
              exact ⟨up this.1 (by decide), up this.2 (by decide)⟩
            · exact bq'
            · have := hF.2.1 z (List.mem_of_mem_drop hz)
              exact ⟨up this.1 (by decide), up this.2 (by decide)⟩
          · simp only [List.length_append, List.length_take, List.length_drop, List.length_cons, List.length_nil]
            omega
        refine ⟨S, items, _, rfl, rfl, hS8, (by omega), _, _, _, _, _, items ++ [.ref z4], rfl, SameX.new (x7.trans (sameX_of t16)) gSn, ((b7.up t16).new hSp).mono (by omega), upd_same, (by rw [List.length_append]; simp only [List.length_cons, List.length_nil]; omega), fun v hv => ?_⟩
        rcases List.mem_append.mp hv with hv | hv
        · exact ((gd7 v hv).up t16).set hS8
        · rw [List.mem_singleton.mp hv]
          exact Gd.set ⟨z4, _, _, rfl, nz4, ⟨upd_same, lp8⟩, f8⟩ hS8
    · obtain ⟨o6, o7, o8, o9, o10, items, rfl, x, b, hS, hil, hgd⟩ := hP
      refine ⟨_, rfl, Nat.zero_le _, fun e1 g1 => ⟨(by show 2 ≤ sizeLine; decide), fun t1 gt1 => ⟨(by show 2 ≤ sizeLine; decide), fun t2 gt2 => ⟨(by show 2 ≤ sizeLine; decide), fun t3 gt3 => ⟨(by show 1 ≤ sizeLine; decide), fun e2 g2 => ⟨(by show 2 ≤ sizeLine; decide), fun e3 g3 => ?_⟩⟩⟩⟩⟩⟩
      have u1 := AT.Same.up (o := .lst []) g1
      have u2 := AT.Same.up (o := .tup [.int 0, .int 1]) gt1
      have u3 := AT.Same.up (o := .tup [.int 1, .int 1]) gt2
      have u4 := AT.Same.up (o := .tup [.ref t1, .ref t2]) gt3
      have u5 := AT.Same.up (o := .lst [.ref t3]) g2
      have u6 := AT.Same.up (o := .lst [.ref e1, .ref e2]) g3
      have u36 := ((u3.trans u4).trans u5).trans u6
      have u26 := u2.trans u36
      have u16 := u1.trans u26
      refine ⟨S, e3, items, [.ref e1, .ref e2], rfl, rfl, u16 _ _ hS, upd_same, (by simp only [List.length_cons, List.length_nil]; omega), fun M gM => ?_⟩
      have u7 := AT.Same.up (o := .lst (items ++ [.ref e1, .ref e2])) gM
      have u17 := u16.trans u7
      have hgM : ∀ v ∈ items ++ [.ref e1, .ref e2], ∃ D ws qs, v = .ref D ∧ Lst (upd (upd (upd (upd (upd (upd (upd H' e1 (.lst [])) t1 (.tup [.int 0, .int 1])) t2 (.tup [.int 1, .int 1])) t3 (.tup [.ref t1, .ref t2])) e2 (.lst [.ref t3])) e3 (.lst [.ref e1, .ref e2])) M (.lst (items ++ [.ref e1, .ref e2]))) D ws qs ∧ FinL qs := by
        intro v hv
        rcases List.mem_append.mp hv with hv | hv
        · obtain ⟨D', ws', qs', e, _, l, f⟩ := (hgd v hv).up u17
          exact ⟨D', ws', qs', e, l, f⟩
        · simp only [List.mem_cons, List.not_mem_nil, or_false] at hv
          rcases hv with rfl | rfl
          · exact ⟨e1, [], [], rfl, ⟨(u26.trans u7) _ _ upd_same, .nil⟩, trivial, (fun _ h => nomatch h), by decide⟩
          · refine ⟨e2, [.ref t3], [(0, 1)], rfl, ⟨(u6.trans u7) _ _ upd_same, .cons ⟨t3, .ref t1, .ref t2, rfl, ((u5.trans u6).trans u7) _ _ upd_same, ⟨t1, rfl, (u36.trans u7) _ _ upd_same⟩, ⟨t2, rfl, (((u4.trans u5).trans u6).trans u7) _ _ upd_same⟩⟩ .nil⟩, trivial, fun q hq => ?_, by decide⟩
            rw [List.mem_singleton.mp hq]
            exact ⟨⟨by decide +kernel, by decide +kernel⟩, ⟨by decide +kernel, by decide +kernel⟩⟩
      have hM : upd (upd (upd (upd (upd (upd (upd H' e1 (.lst [])) t1 (.tup [.int 0, .int 1])) t2 (.tup [.int 1, .int 1])) t3 (.tup [.ref t1, .ref t2])) e2 (.lst [.ref t3])) e3 (.lst [.ref e1, .ref e2])) M (.lst (items ++ [.ref e1, .ref e2])) M = some (.lst (items ++ [.ref e1, .ref e2])) := upd_same
      generalize upd (upd (upd (upd (upd (upd (upd H' e1 (.lst [])) t1 (.tup [.int 0, .int 1])) t2 (.tup [.int 1, .int 1])) t3 (.tup [.ref t1, .ref t2])) e2 (.lst [.ref t3])) e3 (.lst [.ref e1, .ref e2])) M (.lst (items ++ [.ref e1, .ref e2])) = HM at u17 hgM hM ⊢
      clear u1 u2 u3 u4 u5 u6 u36 u26 u16 u7 gM g1 g2 g3 gt1 gt2 gt3 hgd
      have hmM : IsMap K HM m (PL.bendF ps) := (hm.upN (sameN_box hb x)).up u17
      have hLM : Lst HM D ws ps := (hL.upX hb x hDp).up u17
      refine ⟨M, rfl, ⟨_, SqL.of hM⟩, for_list (xs := items ++ [.ref e1, .ref e2]) (fun j σ' H'' => ∃ o11 o14 o15, σ' = ([some (.ref p), some (.ref m), some (.ref D), none, none, some (.ref S), o6, o7, o8, o9, o10, o11, none, none, o14, o15] : L2.St) ∧ Same HM H'') ⟨_, _, _, rfl, Same.refl _⟩ (fun j σ' H'' _ hP => SqL.of (hP.choose_spec.choose_spec.choose_spec.2 _ _ hM)) (fun j v σ' H7 hv hP => ?_) (fun σ' H7 hP => ?_)⟩
      · obtain ⟨o11, o14, o15, rfl, s7⟩ := hP
        obtain ⟨Dm, wm, qs, rfl, hLm, fm⟩ := hgM v (List.mem_of_getElem? hv)
        have hLm7 := hLm.up s7
        have lm := hLm.lps.length
        have big8 : ∀ {q : Rat}, Bits 64 q → ((q.den : Int)).natAbs < 2 ^ 8000 := fun h => Nat.lt_trans (den_bits h) (Nat.pow_lt_pow_right (by decide) (by decide))
        refine ⟨_, rfl, Dm, rfl, ⟨_, SqL.of hLm7.at_⟩, fun C gC => ?_⟩
        refine lc_list (K := K) (a := Dm) (xs := wm) (fun j Hj => Same H7 Hj ∧ ∃ acc, Hj C = some (.lst acc) ∧ Pts K Hj acc (qs.take j)) ⟨AT.Same.up gC, [], upd_same, .nil⟩ (fun j Hj _ h => SqL.of (h.1 _ _ hLm7.at_)) (fun j x Hj hx hP => ?_) (fun H8 hP => ?_)
        · obtain ⟨q, eq, t, x1, y1, rfl, ht, ⟨ax, rfl, hax⟩, ⟨ay, rfl, hay⟩⟩ := hLm7.lps.at hx
          obtain ⟨sj, acc, hacc, hpt⟩ := hP
          have bq := fm.2.1 q (List.mem_of_getElem? eq)
          refine ⟨t, _, rfl, SqT.of (sj _ _ ht), rfl, _, _, rfl, _, _, rfl, rfl, rfl, ?_⟩
          dsimp only [tYes]
          refine iteT ?_
          refine ⟨_, rfl, ax, _, 0, _, rfl, rfl, SqT.of (sj _ _ hax), rfl, _, rfl, ax, _, 1, _, rfl, rfl, SqT.of (sj _ _ hax), rfl, fun c1 d1 gc1 gd1 _ => ⟨c1, d1, _, _, rfl, upd_same, .int _, .int _, .inl ⟨_, _, rfl, rfl, den_ne _, big8 bq.1, rfl, ?_⟩⟩⟩
          have sA := made_same (o1 := .ins (cA K) d1 []) (o2 := .ins (cA K) d1 (amtQ (Rat.divInt q.1.num q.1.den))) gc1 gd1
          have hay' := (sj.trans sA) _ _ hay
          refine ⟨_, rfl, ay, _, 0, _, rfl, rfl, SqT.of hay', rfl, _, rfl, ay, _, 1, _, rfl, rfl, SqT.of hay', rfl, fun c2 d2 gc2 gd2 _ => ⟨c2, d2, _, _, rfl, upd_same, .int _, .int _, .inl ⟨_, _, rfl, rfl, den_ne _, big8 bq.2, rfl, ?_⟩⟩⟩
          have sBB := made_same (o1 := .ins (cA K) d2 []) (o2 := .ins (cA K) d2 (amtQ (Rat.divInt q.2.num q.2.den))) gc2 gd2
          have qA : IsQ K _ c1 q.1 := ⟨d1, (sBB _ _ upd_same).trans (congrArg (fun z => some (HO.ins (cA K) d1 (amtQ z))) (q_self q.1))⟩
          have qB : IsQ K (upd (upd (upd (upd (upd (upd Hj d1 (.own c1)) c1 (.ins (cA K) d1 [])) c1 (.ins (cA K) d1 (amtQ (Rat.divInt q.1.num q.1.den)))) d2 (.own c2)) c2 (.ins (cA K) d2 [])) c2 (.ins (cA K) d2 (amtQ (Rat.divInt q.2.num q.2.den)))) c2 q.2 := ⟨d2, upd_same.trans (congrArg (fun z => some (HO.ins (cA K) d2 (amtQ z))) (q_self q.2))⟩
          refine ⟨(by show 2 ≤ sizeLine; decide), fun r gr => ?_⟩
          have sR := AT.Same.up (o := .tup [.ref c1, .ref c2]) gr
          have sjR : Same Hj _ := (sA.trans sBB).trans sR
          have hc := sjR _ _ hacc
          have lu := hpt.length
          rw [List.length_take] at lu
          have hlq := fm.2.2
          refine ⟨acc, hc, (by omega), AT.Same.new (sj.trans sjR) gC, acc ++ [.ref r], upd_same, ?_⟩
          rw [List.take_add_one, eq]
          exact ((hpt.up sjR).app ⟨r, c1, c2, rfl, upd_same, qA.up sR, qB.up sR⟩).set hc
        obtain ⟨s8, acc, hacc, hpt⟩ := hP
        rw [lm, List.take_length] at hpt
        have lpt := hpt.length
        have hlq := fm.2.2
        refine fun m2 dm2 gm gdm hne => ?_
        have v1 : Same H8 (upd (upd H8 dm2 (.own m2)) m2 (.ins (cM K) dm2 [])) := AT.Same.new (AT.Same.up gdm) gm
        refine ⟨m2, dm2, .ref C, rfl, upd_same, .lst (v1 _ _ hacc), .inr ⟨acc, qs, ⟨C, rfl, .inl (v1 _ _ hacc)⟩, (by omega), fun i p ep => ?_, fm.1, .inl ⟨lpt.symm, fun H9 keep im => ⟨rfl, ?_⟩⟩⟩⟩
        · have bq := fm.2.1 p (List.mem_of_getElem? ep)
          obtain ⟨vv, ev, t, xx, yy, rfl, ht, hxx, hyy⟩ := hpt.get ep
          exact ⟨⟨up bq.1 (by decide), up bq.2 (by decide)⟩, _, ev, .ref xx, .ref yy, ⟨t, rfl, .inr (v1 _ _ ht)⟩, .obj (hxx.up v1), .obj (hyy.up v1)⟩
        have s9 : Same H8 H9 := fun b o z => keep b o (ne_of_none z gm) (v1 _ _ z)
        rw [bend_full fm.1] at im
        have s79 := s8.trans s9
        refine ⟨_, rfl, Dm, wm, qs, rfl, hLm7.up s79, fm, fun D5 ws5 H10 s10 g5 L5 => ?_⟩
        refine ⟨_, rfl, D, ws, ps, rfl, ((hLM.up s7).up s79).up s10, hF.l, fun D6 ws6 H11 s11 g6 L6 => ?_⟩
        refine ⟨dl _, dl _, (L5.up s11).dp, L6.dp, shaped_dl _, shaped_dl _, ?_⟩
        rw [eqv_dl]
        have im11 := (im.up s10).up s11
        have hm11 : IsMap K H11 m (PL.bendF ps) := (((hmM.up s7).up s79).up s10).up s11
        obtain ⟨da, ta, wa, a1, a2, a3⟩ := id im11
        obtain ⟨db, tb, wb, b1, b2, b3⟩ := id hm11
        have ec : decide (PL.bendF ps = PL.bendF qs) = decide (PL.bendF qs = PL.bendF ps) := by rw [decide_eq_decide]; exact eq_comm
        refine ⟨_, rfl, _, rfl, m2, da, _, rfl, a1, ⟨_, T.ins_TempoMap b1, .inl rfl⟩, m2, .ref m, PL.bendF qs, rfl, im11, .inl ⟨m, PL.bendF ps, rfl, hm11, ?_⟩⟩
        refine ⟨_, rfl, rfl, false, congrArg V.bl (by simp), iteF ?_⟩
        refine ⟨_, rfl, _, rfl, m, db, _, rfl, b1, ⟨_, T.ins_TempoMap a1, .inl rfl⟩, m, .ref m2, PL.bendF ps, rfl, hm11, .inl ⟨m2, PL.bendF qs, rfl, im11, ?_⟩⟩
        refine ⟨_, rfl, rfl, false, congrArg V.bl (by rw [ec]; simp), iteF ?_⟩
        refine ⟨_, rfl, _, rfl, m, db, _, rfl, b1, ⟨_, T.ins_TempoMap a1, .inl rfl⟩, m, .ref m2, PL.bendF ps, rfl, hm11, .inl ⟨m2, PL.bendF qs, rfl, im11, _, rfl, ?_⟩⟩
        refine ⟨_, rfl, rfl, false, congrArg V.bl (by rw [ec]; cases decide (PL.bendF qs = PL.bendF ps) <;> rfl), iteF ?_⟩
        exact ⟨_, _, _, rfl, ((s7.trans s79).trans s10).trans s11⟩
      · obtain ⟨o11, o14, o15, rfl, s7⟩ := hP
        exact k H7 (x.trans (sameX_of (u17.trans s7))) ((b.up (u17.trans s7)).mono (by omega))
end
end K08

set_option maxHeartbeats 4000000
namespace K08
open PySem PySem.Spec PyProof.Rows L2 AT
section
variable {P : Program} {w : World} {K : PySem.W.Frag} {mg : Str → Option Value} {base : Heap}
theorem same_x {p : Addr} {H H1 H2 : Hp} (s : Same H H1) (hp : H p = none) (x : SameX p H1 H2) : Same H H2 := fun b o e => x b o (ne_of_none e hp) (s b o e)
theorem same_sql {K : PySem.W.Frag} {H H' : Hp} {a : Addr} {xs : List V} (e : Same H H') (h : SqL K H a xs) : SqL K H' a xs := by
  rcases h with (h | ⟨o, h⟩) | h
  · exact .inl (.inl (e _ _ h))
  · exact .inl (.inr ⟨o, e _ _ h⟩)
  · exact .inr h
theorem bend_bits {ps : List (Rat × Rat)} (h : FinL ps) : ∀ q ∈ PL.bendF ps, BitsP 300 q := by
  intro q hq
  unfold PL.bendF at hq
  split at hq
  · rename_i e
    rw [List.mem_singleton.mp hq]
    have b01 : Bits 300 (0 : Rat) := ⟨by decide +kernel, by decide +kernel⟩
    refine ⟨b01, ?_⟩
    cases ps with
    | nil => exact b01
    | cons p r =>
      have bp := h.2.1 p (by simp)
      show Bits 300 (PL.ledR (p :: r) 0)
      rw [PL.led_flat (ris_of h.1) e]
      have b0 : Bits 1 (0 : Rat) := ⟨by decide +kernel, by decide +kernel⟩
      exact (bp.2.add (b0.sub bp.1)).mono (by decide)
  · have := h.2.1 q (PL.bend_mem hq)
    exact ⟨this.1.mono (by decide), this.2.mono (by decide)⟩
theorem bend_count {ps : List (Rat × Rat)} (h : FinL ps) : (PL.bendF ps).length ≤ 101 := by
  have e : (PL.bendF ps).length ≤ ps.length + 1 := by
    unfold PL.bendF
    split
    · simp
    · have : ∀ (m : Rat) (l : List (Rat × Rat)), (PL.bendR m l).length ≤ l.length := by
        intro m l
        induction l generalizing m with
        | nil => exact Nat.le_refl _
        | cons p r ih =>
          by_cases c : m = PL.outS p r
          · rw [PL.bend_eq c]
            exact Nat.le_trans (ih _) (by simp)
          · rw [PL.bend_ne c]
            simpa using ih _
      exact Nat.le_trans (this 1 ps) (by simp)
  have := h.2.2
  omega
theorem bend_fine {ps : List (Rat × Rat)} (h : FinL ps) : FineM (PL.bendF ps) := by
  refine ⟨rising_of (PL.bendF_ris (ris_of h.1)), (fun q hq => ⟨(bend_bits h q hq).1.mono (by decide), (bend_bits h q hq).2.mono (by decide)⟩), ?_, PL.bendF_ne ps⟩
  · have := bend_count h
    omega
def spLaw (K : PySem.W.Frag) : Sp := fun vs H Q _ => ∃ (a : Addr) (ns : List Int), vs = [.ref a] ∧ SqL K H a (ns.map V.int) ∧ ∀ H', Q (.bl true) H'
theorem sc_law : FnScope ["_law_script", "_law_index", "_law_bag_here", "_law_points_here", "_law_beat", "_law_second", "_law_passed", "_law_point", "_law_tempo", "_law_finer_here", "_law_one", "_law_two", "_law_same", "_law_bent"] ["_law_script"] (defScope s_law) := ⟨rfl, rfl, rfl, by decide +kernel, rfl, by decide +kernel, by decide +kernel⟩
theorem ok_law (T : Tx K mg base) : Ok P w K mg base 16 (d_law.loc K) ["_law_script"] (spLaw K) := by
  refine mk_ok (k := 15) T.f_law sc_law (fun _ _ _ _ _ _ us hl => match us, hl with | [_], _ => rfl) (fun vs H Q E h => ?_) (fun cdv A outer s H vs Q E hr h => ?_)
  · obtain ⟨a, ns, rfl, _⟩ := h
    rfl
  · obtain ⟨a, ns, rfl, hS, k⟩ := h
    refine ⟨_, (pss_cons (ps_for (passes_of rfl) rfl (pi_range1 (by rfl) T.b_range (pa_cons (pe_callB (call_max2 rfl) (by rfl) T.b_max (by decide +kernel) (pa_cons pe_int (pa_cons (pe_callB (call_min2 rfl) (by rfl) T.b_min (by decide +kernel) (pa_cons pe_int (pa_cons (pe_callB call_len_seq (by rfl) T.b_len (by decide +kernel) (pa_cons (pv 0) pa_nil)) pa_nil))) pa_nil))) pa_nil)) (pg_name (i := 1) sc_law.nd rfl (Or.inl rfl)) (pss_cons (ps_set (i := 2) sc_law.nd rfl (Or.inr rfl) (ok_call (ok_w_bag T) (hr.mono (by decide)) rfl T.g_w_bag passL (pa_cons (ok_call (ok_w_cell T) (hr.mono (by decide)) rfl T.g_w_cell passL (pa_cons (pv 0) (pa_cons (pv 1) pa_nil))) pa_nil)))
      (pss_cons (ps_set (i := 3) sc_law.nd rfl (Or.inl rfl) (ok_call (ok_w_points T) (hr.mono (by decide)) rfl T.g_w_points passL (pa_cons (pv 2) (pa_cons pe_int pa_nil))))
      (pss_cons (ps_setLc (i := 6) (own := [("_law_beat", 4), ("_law_second", 5)]) (g := (gTup K 2 (gCons (gName 4) (gCons (gName 5) gNil)))) (tt := tYes) (by rfl) sc_law.nd rfl rfl (sw_true rfl rfl rfl (by decide +kernel)) (pi_list (pv 3)) (blkOk_by (own := [("_law_beat", 4), ("_law_second", 5)]) (N := ["_law_script", "_law_index", "_law_bag_here", "_law_points_here", "_law_beat", "_law_second", "_law_passed", "_law_point", "_law_tempo", "_law_finer_here", "_law_one", "_law_two", "_law_same", "_law_bent"]) (sc := defScope s_law) (by decide +kernel)) (fun _ _ _ _ _ => (pg_tup rfl (pgs_cons (pg_name (i := 4) sc_law.nd rfl (Or.inl rfl)) (pgs_cons (pg_name (i := 5) sc_law.nd rfl (Or.inl rfl)) pgs_nil)))) (fun _ _ _ _ _ => pts_nil) (fun _ _ _ _ _ => (pe_lst (pa_cons (ok_call (ok_w_given T) (hr.mono (by decide)) rfl T.g_w_given passL (pa_cons (pv 2) (pa_cons (pv 4) pa_nil))) (pa_cons (ok_call (ok_w_given T) (hr.mono (by decide)) rfl T.g_w_given passL (pa_cons (pv 2) (pa_cons (pv 5) pa_nil))) pa_nil)))))
      (Evl.pss_cut (ps_set (i := 8) sc_law.nd rfl (Or.inl rfl) (ok_make T.mkr_TempoMap (ok_TempoMap_init_ T) (hr.mono (by decide)) rfl T.g_TempoMap (passE rfl rfl rfl rfl) (pa_cons (pe_ifExp (pt_cmpR op_eq (ok_call (ok_w_take T) (hr.mono (by decide)) rfl T.g_w_take passL (pa_cons (pv 2) (pa_cons pe_int pa_nil))) pe_int (nomark _)) (pv 6) (pe_callTy call_tuple_of (by rfl) T.b_tuple (by decide +kernel) (pa_cons (pe_lc (own := [("_law_point", 7)]) (g := (gName 7)) (tt := tYes) (by rfl) sc_law.nd (pi_list (pv 6)) (blkOk_by (own := [("_law_point", 7)]) (N := ["_law_script", "_law_index", "_law_bag_here", "_law_points_here", "_law_beat", "_law_second", "_law_passed", "_law_point", "_law_tempo", "_law_finer_here", "_law_one", "_law_two", "_law_same", "_law_bent"]) (sc := defScope s_law) (by decide +kernel)) (fun _ _ _ _ _ => (pg_name (i := 7) sc_law.nd rfl (Or.inl rfl))) (fun _ _ _ _ _ => pts_nil) (fun _ _ _ _ _ => (pe_callTy (show CallR _ (.type "tuple") (rTupOf K) from call_tupK) (by rfl) T.b_tuple (by decide +kernel) (pa_cons (pv 7) pa_nil)))) pa_nil))) pa_nil)))
      (pss_cons (ps_for (passes_of rfl) rfl (pi_list (pv 6)) (pg_name (i := 7) sc_law.nd rfl (Or.inl rfl)) (pss_one (ps_expr (pe_bm0 PySem.F.plainAttrs_list PySem.F.slot_list_clear PySem.F.type_list_clear mt_clear (pv 7) ))))
      (pss_cons (ps_expr (pe_bm PySem.F.plainAttrs_list PySem.F.slot_list_append PySem.F.type_list_append mt_append (pv 6) (pa_cons pe_str pa_nil)))
      (pss_cons (ps_if (PW.pt (pw_or (pt_not (pt_val (ok_call (ok_w_right T) (hr.mono (by decide)) rfl T.g_w_right passL (pa_cons (pv 2) (pa_cons (pv 8) (pa_cons (pv 3) pa_nil)))))) (pw_or1 (pt_not (pt_val (ok_call (ok_w_right T) (hr.mono (by decide)) rfl T.g_w_right passL (pa_cons (pv 2) (pa_cons (pv 8) (pa_cons (pv 3) pa_nil))))))))) (pss_one (ps_ret pe_bl)) pss_nil)
      (pss_cons (ps_set (i := 9) sc_law.nd rfl (Or.inl rfl) (ok_call (ok_w_finer T) (hr.mono (by decide)) rfl T.g_w_finer passL (pa_cons (pv 2) (pa_cons (pv 3) pa_nil))))
      (pss_cons (ps_set (i := 12) sc_law.nd rfl (Or.inl rfl) (ok_make T.mkr_TempoMap (ok_TempoMap_init_ T) (hr.mono (by decide)) rfl T.g_TempoMap (passE rfl rfl rfl rfl) (pa_cons (pe_lc (own := [("_law_one", 10), ("_law_two", 11)]) (g := (gTup K 2 (gCons (gName 10) (gCons (gName 11) gNil)))) (tt := tYes) (by rfl) sc_law.nd (pi_list (pv 9)) (blkOk_by (own := [("_law_one", 10), ("_law_two", 11)]) (N := ["_law_script", "_law_index", "_law_bag_here", "_law_points_here", "_law_beat", "_law_second", "_law_passed", "_law_point", "_law_tempo", "_law_finer_here", "_law_one", "_law_two", "_law_same", "_law_bent"]) (sc := defScope s_law) (by decide +kernel)) (fun _ _ _ _ _ => (pg_tup rfl (pgs_cons (pg_name (i := 10) sc_law.nd rfl (Or.inl rfl)) (pgs_cons (pg_name (i := 11) sc_law.nd rfl (Or.inl rfl)) pgs_nil)))) (fun _ _ _ _ _ => pts_nil) (fun _ _ _ _ _ => (pe_tup (pa_cons (ok_make T.mkr_Amount (ok_Amount_init_ T) (hr.mono (by decide)) rfl T.g_Amount passL (pa_cons (pe_ix (show IxR _ (rIxT K) from ix_tup) (pv 10) pe_int (fun _ _ => rfl)) (pa_cons (pe_ix (show IxR _ (rIxT K) from ix_tup) (pv 10) pe_int (fun _ _ => rfl)) pa_nil))) (pa_cons (ok_make T.mkr_Amount (ok_Amount_init_ T) (hr.mono (by decide)) rfl T.g_Amount passL (pa_cons (pe_ix (show IxR _ (rIxT K) from ix_tup) (pv 11) pe_int (fun _ _ => rfl)) (pa_cons (pe_ix (show IxR _ (rIxT K) from ix_tup) (pv 11) pe_int (fun _ _ => rfl)) pa_nil))) pa_nil))))) pa_nil)))
      (pss_cons (ps_if (PW.pt (pw_or (pt_cmpR (op_neO T.eq_TempoMap (ok_TempoMap_eq_ T) (hr.mono (by decide)) passL) (pv 12) (pv 8) (nomark _)) (pw_or (pt_not (pt_cmpR (op_eqO T.eq_TempoMap (ok_TempoMap_eq_ T) (hr.mono (by decide)) passL) (pv 12) (pv 8) (nomark _))) (pw_or1 (pt_cmpR (op_neO T.eq_TempoMap (ok_TempoMap_eq_ T) (hr.mono (by decide)) passL) (ok_make T.mkr_TempoMap (ok_TempoMap_init_ T) (hr.mono (by decide)) rfl T.g_TempoMap (passE rfl rfl rfl rfl) (pa_cons (ok_meth0 T.cls_TempoMap T.m_TempoMap_points (ok_TempoMap_points T) (hr.mono (by decide)) passL (pv 8) ) pa_nil)) (pv 8) (nomark _)))))) (pss_one (ps_ret pe_bl)) pss_nil)
      (pss_cons (ps_set (i := 13) sc_law.nd rfl (Or.inl rfl) (ok_meth0 T.cls_TempoMap T.m_TempoMap_points (ok_TempoMap_points T) (hr.mono (by decide)) passL (pv 8) ))
      (pss_cons (ps_expr (pe_bm PySem.F.plainAttrs_list PySem.F.slot_list_append PySem.F.type_list_append mt_append (pv 13) (pa_cons (pe_tup (pa_cons (pe_op (op_own T.op_Amount_add (ok_Amount_add_ T) (hr.mono (by decide)) (passE rfl rfl rfl rfl)) (pe_ix ix_tup (pe_ix ix_list (pv 13) (pe_un un_neg pe_int) (fun _ _ => rfl)) pe_int (fun _ _ => rfl)) pe_int) (pa_cons (pe_op (op_own T.op_Amount_add (ok_Amount_add_ T) (hr.mono (by decide)) (passE rfl rfl rfl rfl)) (pe_ix ix_tup (pe_ix ix_list (pv 13) (pe_un un_neg pe_int) (fun _ _ => rfl)) pe_int (fun _ _ => rfl)) (ok_make T.mkr_Amount (ok_Amount_init_ T) (hr.mono (by decide)) rfl T.g_Amount (passE rfl rfl rfl rfl) (pa_cons pe_int (pa_cons pe_int pa_nil)))) pa_nil))) pa_nil)))
      (pss_one (ps_if (PW.pt (pw_or (pt_cmpR (op_eqO T.eq_TempoMap (ok_TempoMap_eq_ T) (hr.mono (by decide)) passL) (ok_make T.mkr_TempoMap (ok_TempoMap_init_ T) (hr.mono (by decide)) rfl T.g_TempoMap (passE rfl rfl rfl rfl) (pa_cons (pv 13) pa_nil)) (pv 8) (nomark _)) (pw_or (pt_cmpR (op_eqO T.eq_TempoMap (ok_TempoMap_eq_ T) (hr.mono (by decide)) passL) (pv 8) (pv 13) (nomark _)) (pw_or1 (pt_not (pt_val (ok_call (ok_w_others_right T) (hr.mono (by decide)) rfl T.g_w_others_right passL (pa_cons (pv 2) (pa_cons (pv 8) (pa_cons (pv 3) pa_nil)))))))))) (pss_one (ps_ret pe_bl)) pss_nil)))))))))))))))
      (pss_one (ps_ret (pe_and (pe_cmpR (op_eqD hr.units) (ok_call (ok_w_pairs T) (hr.mono (by decide)) rfl T.g_w_pairs passL (pa_cons (ok_meth0 T.cls_TempoMap T.m_TempoMap_points (ok_TempoMap_points T) (hr.mono (by decide)) passL (ok_makeD0 T.mkr_TempoMap (okd0_TempoMap_init_ T) (hr.mono (by decide)) rfl T.g_TempoMap (passE rfl rfl rfl rfl)) ) pa_nil)) (pe_lst (pa_cons (pe_tup (pa_cons (pe_tup (pa_cons pe_int (pa_cons pe_int pa_nil))) (pa_cons (pe_tup (pa_cons pe_int (pa_cons pe_int pa_nil))) pa_nil))) pa_nil)) (nomark _)) (pe_one (pe_cmpR (op_eqO T.eq_TempoMap (ok_TempoMap_eq_ T) (hr.mono (by decide)) passL) (ok_make T.mkr_TempoMap (ok_TempoMap_init_ T) (hr.mono (by decide)) rfl T.g_TempoMap (passE rfl rfl rfl rfl) (pa_cons (pe_lst pa_nil) pa_nil)) (ok_makeD0 T.mkr_TempoMap (okd0_TempoMap_init_ T) (hr.mono (by decide)) rfl T.g_TempoMap (passE rfl rfl rfl rfl)) (nomark _))))))), ?_⟩
    have hsz : sizeLine = 16777216 := sizeLine_eq
    refine ⟨_, rfl, a, _, rfl, .inl hS, _, _, rfl, _, _, rfl, ?_⟩
    have hm : ∃ m : Int, m = (if (if ((ns.map V.int).length : Int) < 6 then ((ns.map V.int).length : Int) else 6) > 2 then (if ((ns.map V.int).length : Int) < 6 then ((ns.map V.int).length : Int) else 6) else 2) ∧ 0 ≤ m ∧ m ≤ 6 := by
      refine ⟨_, rfl, ?_, ?_⟩ <;> split <;> split <;> omega
    obtain ⟨m, em, m0, m8⟩ := hm
    refine ⟨m, (by rw [em]), (by omega), (by omega), for_range (lo := 0) (n := m.toNat) (fun i σ' H' => ∃ (o1 o2 o3 o6 o7 o8 o9 o12 o13 : Option V), σ' = ([some (.ref a), o1, o2, o3, none, none, o6, o7, o8, o9, none, none, o12, o13] : L2.St) ∧ Same H H') ⟨_, _, _, _, _, _, _, _, _, rfl, Same.refl _⟩ ?_ ?_⟩
    · rintro i σ' H' hi ⟨o1, o2, o3, o6, o7, o8, o9, o12, o13, rfl, s1⟩
      refine ⟨_, rfl, _, rfl, a, ns, i, (by rw [Int.zero_add]; rfl), same_sql s1 hS, (by omega), fun c => ?_⟩
      refine ⟨c, rfl, fun p H1 s2 hp b1 => ?_⟩
      refine ⟨_, rfl, p, 0, 6, rfl, b1, (by decide), (by decide), fun D ws ps H2 x2 hD b2 hl2 lp hris hlen hfine => ?_⟩
      have hDp : D ≠ p := box_ne b1 hD
      have sH2 : Same H' H2 := same_x s2 hp x2
      have hF : FinS ps := ⟨hris, fun q hq => ⟨(hfine q hq).1.bits24 (by decide), (hfine q hq).2.bits24 (by decide)⟩, by omega⟩
      have hL : Lst H2 D ws ps := ⟨hl2, lp⟩
      have hl := lp.length
      have up : ∀ {q : Rat} {m k : Nat}, Bits m q → m ≤ k → Bits k q := fun h l => h.mono l
      have hbits := hF.2.1
      -- what is passed
      refine ⟨_, rfl, D, rfl, ⟨_, SqL.of hl2⟩, fun Pd gP => ?_⟩
      have hPp : Pd ≠ p := box_ne b2 gP
      refine lc_list (K := K) (a := D) (xs := ws) (fun j Hj => SameX p H2 Hj ∧ BoxAt Hj p (500 + 2 * j) ∧ ∃ acc, Hj Pd = some (.lst acc) ∧ acc.length = j ∧ ∀ (i : Nat) (v : V), acc[i]? = some v → ∃ (q : Rat × Rat) (r : Addr) (u1 u2 : V), ps[i]? = some q ∧ v = .ref r ∧ Hj r = some (.lst [u1, u2]) ∧ Qv K Hj u1 q.1 ∧ Qv K Hj u2 q.2 ∧ H2 r = none ∧ r ≠ Pd ∧ r ≠ p) ⟨SameX.new (SameX.refl _ _) gP, (b2.mono (by omega)).new hPp, [], upd_same, rfl, (fun i v e => by simp at e)⟩ (fun j Hj _ h => SqL.of (h.1 _ _ hDp hl2)) (fun j x Hj hx hP => ?_) (fun H3 hP => ?_)
      · obtain ⟨xj, bj, acc, hacc, hal, hrow⟩ := hP
        obtain ⟨q, eq, lpq⟩ := lp.at hx
        obtain ⟨t, cx, cy, rfl, ht, hcx, hcy⟩ := lpq.upT (sameT_box b2 xj)
        have bq := hbits q (List.mem_of_getElem? eq)
        have hj : j < ws.length := (List.getElem?_eq_some_iff.mp hx).1
        refine ⟨t, _, rfl, SqT.of ht, rfl, _, _, rfl, _, _, rfl, rfl, rfl, ?_⟩
        dsimp only [tYes]
        refine iteT ?_
        refine ⟨_, rfl, _, rfl, p, _, cx, q.1, rfl, bj, (by omega), hcx, up bq.1 (by decide), fun u1 H4 x4 b4 qu1 _ => ?_⟩
        refine ⟨_, rfl, _, rfl, p, _, cy, q.2, rfl, b4, (by omega), hcy.upX bj x4, up bq.2 (by decide), fun u2 H5 x5 b5 qu2 _ => ?_⟩
        refine ⟨(by show 2 ≤ sizeLine; decide), fun r gr => ?_⟩
        have sR := AT.Same.up (o := .lst [u1, u2]) gr
        have x45 := x4.trans x5
        have hacc5 := x45 _ _ hPp hacc
        have hrP : r ≠ Pd := by rintro rfl; rw [hacc5] at gr; cases gr
        have hrp : r ≠ p := box_ne b5 gr
        have xj5 := xj.trans x45
        have gr2 : H2 r = none := new_x xj5 b5 gr
        have nN : SameN Hj (upd (upd H5 r (.lst [u1, u2])) Pd (.lst (acc ++ [.ref r]))) := ((sameN_box bj x45).trans (sameN_of sR)).trans (sameN_set (sR _ _ hacc5))
        have nN4 : SameN H4 (upd (upd H5 r (.lst [u1, u2])) Pd (.lst (acc ++ [.ref r]))) := ((sameN_box b4 x5).trans (sameN_of sR)).trans (sameN_set (sR _ _ hacc5))
        have nN5 : SameN H5 (upd (upd H5 r (.lst [u1, u2])) Pd (.lst (acc ++ [.ref r]))) := (sameN_of sR).trans (sameN_set (sR _ _ hacc5))
        refine ⟨acc, sR _ _ hacc5, (by omega), SameX.new (xj5.trans (sameX_of sR)) gP, (((b5.up sR).new hPp).mono (by omega)), acc ++ [.ref r], upd_same, (by simp [hal]), fun i v hv => ?_⟩
        by_cases hi : i < acc.length
        · rw [List.getElem?_append_left hi] at hv
          obtain ⟨q', r', w1, w2, e1, e2, e3, e4, e5, e6, e7, e8⟩ := hrow i v hv
          exact ⟨q', r', w1, w2, e1, e2, by rw [upd_ne e7]; exact sR _ _ (x45 _ _ e8 e3), e4.upN nN, e5.upN nN, e6, e7, e8⟩
        · rw [List.getElem?_append_right (by omega)] at hv
          have hi0 : i - acc.length = 0 := by
            have := (List.getElem?_eq_some_iff.mp hv).1
            simp at this
            omega
          rw [hi0] at hv
          have hv : v = .ref r := by simpa using hv.symm
          subst hv
          have ei : i = j := by omega
          subst ei
          exact ⟨q, r, u1, u2, eq, rfl, by rw [upd_ne hrP]; exact upd_same, qu1.upN nN4, qu2.upN nN5, gr2, hrP, hrp⟩
      obtain ⟨x3, b3, acc, hacc, hal, hrow⟩ := hP
      have hPn : H' Pd = none := none_of sH2 gP
      have sH3 : Same H' H3 := same_x sH2 hp x3
      have hlp : acc.length = ps.length := by rw [hal, hl]
      -- the map
      refine ⟨fun σ' Ht => ∃ m, σ' = ([some (.ref a), some (.int (0 + (i : Int))), some (.ref p), some (.ref D), none, none, some (.ref Pd), o7, some (.ref m), o9, none, none, o12, o13] : L2.St) ∧ SameX p H2 Ht ∧ BoxAt Ht p 560 ∧ IsMap K Ht m (PL.bendF ps) ∧ Ht Pd = some (.lst acc) ∧ ∀ v ∈ acc, ∃ r ys, v = .ref r ∧ Ht r = some (.lst ys) ∧ H2 r = none ∧ r ≠ Pd ∧ r ≠ p, ?_, ?_⟩
      · have mkm : ∀ (Hx : Hp) (v : V) (xs : List V), SameX p H2 Hx → BoxAt Hx p 560 → Sq Hx v xs → xs.length = ps.length → (∀ (i : Nat) (q : Rat × Rat), ps[i]? = some q → ∃ x, xs[i]? = some x ∧ Item K Hx x q) → Hx Pd = some (.lst acc) → (∀ v ∈ acc, ∃ r ys, v = .ref r ∧ Hx r = some (.lst ys) ∧ H2 r = none ∧ r ≠ Pd ∧ r ≠ p) →
            ∀ m dm, Hx m = none → Hx dm = none → dm ≠ m → ∀ (Qm : Hp → Prop) (Em : XK), (∀ Ht, SameX p H2 Ht → BoxAt Ht p 560 → IsMap K Ht m (PL.bendF ps) → Ht Pd = some (.lst acc) → (∀ v ∈ acc, ∃ r ys, v = .ref r ∧ Ht r = some (.lst ys) ∧ H2 r = none ∧ r ≠ Pd ∧ r ≠ p) → Qm Ht) →
            spMap K [.ref m, v] (upd (upd Hx dm (.own m)) m (.ins (cM K) dm [])) (fun z H9 => z = .non ∧ Qm H9) Em := by
          intro Hx v xs xx bx hsq hxl hit hPx hrx m dm gm gdm hne Qm Em kq
          have v1 : Same Hx (upd (upd Hx dm (.own m)) m (.ins (cM K) dm [])) := AT.Same.new (AT.Same.up gdm) gm
          refine ⟨m, dm, v, rfl, upd_same, (hsq.up v1).any, .inr ⟨xs, ps, hsq.up v1, (by omega), fun i q e => ?_, hris, .inl ⟨hxl.symm, fun H9 keep im => ⟨rfl, ?_⟩⟩⟩⟩
          · obtain ⟨x, ex, it⟩ := hit i q e
            have bq := hbits q (List.mem_of_getElem? e)
            exact ⟨⟨up bq.1 (by decide), up bq.2 (by decide)⟩, x, ex, it.up v1⟩
          · have s9 : Same Hx H9 := fun b o z => keep b o (ne_of_none z gm) (v1 _ _ z)
            rw [bend_full hris] at im
            refine kq H9 (xx.trans (sameX_of s9)) (bx.up s9) im (s9 _ _ hPx) fun v hv => ?_
            obtain ⟨r, ys, e1, e2, e3⟩ := hrx v hv
            exact ⟨r, ys, e1, s9 _ _ e2, e3⟩
        refine ⟨_, rfl, p, _, _, rfl, b3, (by omega), (by decide), (by decide +kernel), fun r0 H4 d1 d2 x4 b4 => ?_⟩
        have x24 := x3.trans x4
        have hacc4 := x4 _ _ hPp hacc
        have hrow4 : ∀ (i : Nat) (v : V), acc[i]? = some v → ∃ (q : Rat × Rat) (r : Addr) (u1 u2 : V), ps[i]? = some q ∧ v = .ref r ∧ H4 r = some (.lst [u1, u2]) ∧ Qv K H4 u1 q.1 ∧ Qv K H4 u2 q.2 ∧ H2 r = none ∧ r ≠ Pd ∧ r ≠ p := by
          intro i v hv
          obtain ⟨q', r', w1, w2, e1, e2, e3, e4, e5, e6, e7, e8⟩ := hrow i v hv
          exact ⟨q', r', w1, w2, e1, e2, x4 _ _ e8 e3, e4.upN (sameN_box b3 x4), e5.upN (sameN_box b3 x4), e6, e7, e8⟩
        have rows4 : ∀ v ∈ acc, ∃ r ys, v = .ref r ∧ H4 r = some (.lst ys) ∧ H2 r = none ∧ r ≠ Pd ∧ r ≠ p := fun v hv => by
          obtain ⟨i, hi⟩ := List.getElem?_of_mem hv
          obtain ⟨q', r', w1, w2, e1, e2, e3, e4, e5, e6⟩ := hrow4 i v hi
          exact ⟨r', _, e2, e3, e6⟩
        refine ⟨rfl, _, rfl, ite2 (fun h1 => ?_) (fun h1 => ?_)⟩
        · refine ⟨_, rfl, fun m dm gm gdm hne => mkm H4 (.ref Pd) acc x24 (b4.mono (by omega)) ⟨Pd, rfl, .inl hacc4⟩ hlp (fun i q e => ?_) hacc4 rows4 m dm gm gdm hne _ _ fun Ht a1 a2 a3 a4 a5 => ⟨m, rfl, a1, a2, a3, a4, a5⟩⟩
          have hi : i < acc.length := by rw [hlp]; exact (List.getElem?_eq_some_iff.mp e).1
          obtain ⟨q', r', w1, w2, e1, e2, e3, e4, e5, e6⟩ := hrow4 i _ (List.getElem?_eq_getElem hi)
          rw [e] at e1
          cases e1
          exact ⟨_, List.getElem?_eq_getElem hi, w1, w2, ⟨r', e2, .inl e3⟩, e4, e5⟩
        · refine ⟨_, rfl, Pd, rfl, ⟨_, SqL.of hacc4⟩, fun C gC => ?_⟩
          refine lc_list (K := K) (a := Pd) (xs := acc) (fun j Hj => Same H4 Hj ∧ ∃ ac2, Hj C = some (.lst ac2) ∧ ac2.length = j ∧ ∀ (i : Nat) (v : V), ac2[i]? = some v → ∃ (q : Rat × Rat) (t : Addr) (u1 u2 : V), ps[i]? = some q ∧ v = .ref t ∧ Hj t = some (.tup [u1, u2]) ∧ Qv K Hj u1 q.1 ∧ Qv K Hj u2 q.2) ⟨AT.Same.up gC, [], upd_same, rfl, (fun i v e => by simp at e)⟩ (fun j Hj _ h => SqL.of (h.1 _ _ hacc4)) (fun j x Hj hx hP => ?_) (fun H5 hP => ?_)
          · obtain ⟨sj, ac2, hac2, hal2, hit2⟩ := hP
            obtain ⟨q, r, u1, u2, eq, rfl, hr4, qu1, qu2, _⟩ := hrow4 j x hx
            have hj : j < acc.length := (List.getElem?_eq_some_iff.mp hx).1
            refine ⟨rfl, ?_⟩
            dsimp only [tYes]
            refine iteT ⟨_, rfl, r, [u1, u2], rfl, .inl ⟨SqL.of (sj _ _ hr4), fun t gt => ?_⟩⟩
            have sT := AT.Same.up (o := .tup [u1, u2]) gt
            have hc := sT _ _ hac2
            have nN : SameN Hj (upd (upd Hj t (.tup [u1, u2])) C (.lst (ac2 ++ [.ref t]))) := (sameN_of sT).trans (sameN_set hc)
            have hl5 := hlp
            refine ⟨ac2, hc, (by omega), AT.Same.new (sj.trans sT) gC, ac2 ++ [.ref t], upd_same, (by simp [hal2]), fun i v hv => ?_⟩
            by_cases hi : i < ac2.length
            · rw [List.getElem?_append_left hi] at hv
              obtain ⟨q', t', w1, w2, e1, e2, e3, e4, e5⟩ := hit2 i v hv
              exact ⟨q', t', w1, w2, e1, e2, nN _ _ e3 (fun _ z => nomatch z), e4.upN nN, e5.upN nN⟩
            · rw [List.getElem?_append_right (by omega)] at hv
              have hi0 : i - ac2.length = 0 := by
                have := (List.getElem?_eq_some_iff.mp hv).1
                simp at this
                omega
              rw [hi0] at hv
              have hv : v = .ref t := by simpa using hv.symm
              subst hv
              have ei : i = j := by omega
              subst ei
              exact ⟨q, t, u1, u2, eq, rfl, (sameN_set hc) _ _ upd_same (fun _ z => nomatch z), (qu1.up sj).upN nN, (qu2.up sj).upN nN⟩
          · obtain ⟨s5, ac2, hac2, hal2, hit2⟩ := hP
            refine ⟨C, ac2, rfl, .inl ⟨SqL.of hac2, fun tt gtt => ?_⟩⟩
            have sT := AT.Same.up (o := .tup ac2) gtt
            have s4T := s5.trans sT
            refine fun m dm gm gdm hne => mkm _ (.ref tt) ac2 (x24.trans (sameX_of s4T)) ((b4.up s4T).mono (by omega)) ⟨tt, rfl, .inr upd_same⟩ (by omega) (fun i q e => ?_) (s4T _ _ hacc4) (fun v hv => ?_) m dm gm gdm hne _ _ fun Ht a1 a2 a3 a4 a5 => ⟨m, rfl, a1, a2, a3, a4, a5⟩
            · have hi : i < ac2.length := by rw [hal2, hlp]; exact (List.getElem?_eq_some_iff.mp e).1
              obtain ⟨q', t', w1, w2, e1, e2, e3, e4, e5⟩ := hit2 i _ (List.getElem?_eq_getElem hi)
              rw [e] at e1
              cases e1
              exact ⟨_, List.getElem?_eq_getElem hi, w1, w2, ⟨t', e2, .inr (sT _ _ e3)⟩, e4.up sT, e5.up sT⟩
            · obtain ⟨r, ys, e1, e2, e3⟩ := rows4 v hv
              exact ⟨r, ys, e1, s4T _ _ e2, e3⟩
      · rintro σ' Ht ⟨m, rfl, xt, bt, hmt, hPt, hrt⟩
        have fmB := bend_fine hF.l
        have sHt : Same H' Ht := same_x sH2 hp xt
        have hLt : Lst Ht D ws ps := hL.upX b2 xt hDp
        have hDn : H2 D ≠ none := by rw [hl2]; simp
        have hlw : acc.length ≤ 10 := by rw [hlp]; exact hF.2.2
        refine ⟨_, rfl, Pd, rfl, ⟨_, SqL.of hPt⟩, for_list (xs := acc) (fun j σ' Hc => ∃ o7, σ' = ([some (.ref a), some (.int (0 + (i : Int))), some (.ref p), some (.ref D), none, none, some (.ref Pd), o7, some (.ref m), o9, none, none, o12, o13] : L2.St) ∧ Same H' Hc ∧ BoxAt Hc p 560 ∧ IsMap K Hc m (PL.bendF ps) ∧ Lst Hc D ws ps ∧ Hc Pd = some (.lst acc) ∧ ∀ v ∈ acc, ∃ r ys, v = .ref r ∧ Hc r = some (.lst ys) ∧ H2 r = none ∧ r ≠ Pd ∧ r ≠ p) ⟨_, rfl, sHt, bt, hmt, hLt, hPt, hrt⟩ (fun j σ' Hc _ hP => ?_) (fun j v σ' Hc hv hP => ?_) (fun σ' Hc hP => ?_)⟩
        · obtain ⟨_, _, _, _, _, _, h, _⟩ := hP
          exact SqL.of h
        · obtain ⟨o7, rfl, sc, bc, hmc, hLc, hPc, hrc⟩ := hP
          obtain ⟨r, ys, rfl, hr1, hr2, hr3, hr4⟩ := hrc v (List.mem_of_getElem? hv)
          have nD : D ≠ r := by rintro rfl; exact hDn hr2
          refine ⟨_, rfl, tyV_lst hr1, r, ys, rfl, rfl, hr1, _, rfl, AT.Same.new sc (none_of sH2 hr2), bc.new hr4, hmc.upN (sameN_set hr1), ⟨by rw [upd_ne nD]; exact hLc.at_, hLc.lps.upT (sameT_set hr1)⟩, by rw [upd_ne (Ne.symm hr3)]; exact hPc, fun v' hv' => ?_⟩
          obtain ⟨r', ys', e1, e2, e3, e4, e5⟩ := hrc v' hv'
          by_cases c : r' = r
          · subst c
            exact ⟨r', [], e1, upd_same, e3, e4, e5⟩
          · exact ⟨r', ys', e1, by rw [upd_ne c]; exact e2, e3, e4, e5⟩
        · obtain ⟨o7, rfl, sc, bc, hmc, hLc, hPc, _⟩ := hP
          refine ⟨_, rfl, tyV_lst hPc, Pd, acc, _, rfl, rfl, hPc, (by omega), ?_⟩
          have nDP : D ≠ Pd := by rintro rfl; rw [hl2] at gP; cases gP
          have sA : Same H' (upd Hc Pd (.lst (acc ++ [.str "late2"]))) := AT.Same.new sc hPn
          have bA : BoxAt (upd Hc Pd (.lst (acc ++ [.str "late2"]))) p 560 := bc.new hPp
          have hmA : IsMap K (upd Hc Pd (.lst (acc ++ [.str "late2"]))) m (PL.bendF ps) := hmc.upN (sameN_set hPc)
          have hLA : Lst (upd Hc Pd (.lst (acc ++ [.str "late2"]))) D ws ps := ⟨by rw [upd_ne nDP]; exact hLc.at_, hLc.lps.upT (sameT_set hPc)⟩
          generalize upd Hc Pd (.lst (acc ++ [.str "late2"])) = HA at sA bA hmA hLA ⊢
          -- right, twice
          refine ⟨_, rfl, _, rfl, _, rfl, p, _, m, D, ws, ps, rfl, bA, (by omega), hmA, fmB, hLA, hF, hDp, fun HB xB bB => ⟨_, rfl, iteF ?_⟩⟩
          have hmB := hmA.upN (sameN_box bA xB)
          have hLB := hLA.upX bA xB hDp
          refine ⟨_, rfl, _, rfl, _, rfl, p, _, m, D, ws, ps, rfl, bB, (by omega), hmB, fmB, hLB, hF, hDp, fun HC xC bC => ⟨_, rfl, iteF ?_⟩⟩
          have hmC := hmB.upN (sameN_box bB xC)
          have hLC := hLB.upX bB xC hDp
          have sC : Same H' HC := same_x (same_x sA hp xB) hp xC
          -- finer
          refine ⟨_, rfl, _, rfl, p, _, D, ws, ps, rfl, bC, (by omega), hLC, hF, hDp, fun F us bb HD xD gF bD LF fF => ?_⟩
          have hmD := hmC.upN (sameN_box bC xD)
          have hLD := hLC.upX bC xD hDp
          have sD : Same H' HD := same_x sC hp xD
          have eF : PL.bendF (PL.more (PL.finer ps) bb) = PL.bendF ps := PL.bends_finer bb (ris_of hris)
          generalize PL.more (PL.finer ps) bb = qs at LF fF eF
          have lm := LF.lps.length
          have hlq := fF.2.2
          have big8 : ∀ {q : Rat}, Bits 64 q → ((q.den : Int)).natAbs < 2 ^ 8000 := fun h => Nat.lt_trans (den_bits h) (Nat.pow_lt_pow_right (by decide) (by decide))
          refine ⟨_, rfl, F, rfl, ⟨_, SqL.of LF.at_⟩, fun C gC => ?_⟩
          refine lc_list (K := K) (a := F) (xs := us) (fun j Hj => Same HD Hj ∧ ∃ acc, Hj C = some (.lst acc) ∧ Pts K Hj acc (qs.take j)) ⟨AT.Same.up gC, [], upd_same, .nil⟩ (fun j Hj _ h => SqL.of (h.1 _ _ LF.at_)) (fun j x Hj hx hP => ?_) (fun H8 hP => ?_)
          · obtain ⟨q, eq, t, x1, y1, rfl, ht, ⟨ax, rfl, hax⟩, ⟨ay, rfl, hay⟩⟩ := LF.lps.at hx
            obtain ⟨sj, acc, hacc, hpt⟩ := hP
            have bq := fF.2.1 q (List.mem_of_getElem? eq)
            refine ⟨t, _, rfl, SqT.of (sj _ _ ht), rfl, _, _, rfl, _, _, rfl, rfl, rfl, ?_⟩
            dsimp only [tYes]
            refine iteT ?_
            refine ⟨_, rfl, ax, _, 0, _, rfl, rfl, SqT.of (sj _ _ hax), rfl, _, rfl, ax, _, 1, _, rfl, rfl, SqT.of (sj _ _ hax), rfl, fun c1 d1 gc1 gd1 _ => ⟨c1, d1, _, _, rfl, upd_same, .int _, .int _, .inl ⟨_, _, rfl, rfl, den_ne _, big8 bq.1, rfl, ?_⟩⟩⟩
            have sA := made_same (o1 := .ins (cA K) d1 []) (o2 := .ins (cA K) d1 (amtQ (Rat.divInt q.1.num q.1.den))) gc1 gd1
            have hay' := (sj.trans sA) _ _ hay
            refine ⟨_, rfl, ay, _, 0, _, rfl, rfl, SqT.of hay', rfl, _, rfl, ay, _, 1, _, rfl, rfl, SqT.of hay', rfl, fun c2 d2 gc2 gd2 _ => ⟨c2, d2, _, _, rfl, upd_same, .int _, .int _, .inl ⟨_, _, rfl, rfl, den_ne _, big8 bq.2, rfl, ?_⟩⟩⟩
            have sBB := made_same (o1 := .ins (cA K) d2 []) (o2 := .ins (cA K) d2 (amtQ (Rat.divInt q.2.num q.2.den))) gc2 gd2
            have qA : IsQ K _ c1 q.1 := ⟨d1, (sBB _ _ upd_same).trans (congrArg (fun z => some (HO.ins (cA K) d1 (amtQ z))) (q_self q.1))⟩
            have qB : IsQ K (upd (upd (upd (upd (upd (upd Hj d1 (.own c1)) c1 (.ins (cA K) d1 [])) c1 (.ins (cA K) d1 (amtQ (Rat.divInt q.1.num q.1.den)))) d2 (.own c2)) c2 (.ins (cA K) d2 [])) c2 (.ins (cA K) d2 (amtQ (Rat.divInt q.2.num q.2.den)))) c2 q.2 := ⟨d2, upd_same.trans (congrArg (fun z => some (HO.ins (cA K) d2 (amtQ z))) (q_self q.2))⟩
            refine ⟨(by show 2 ≤ sizeLine; decide), fun r gr => ?_⟩
            have sR := AT.Same.up (o := .tup [.ref c1, .ref c2]) gr
            have sjR : Same Hj _ := (sA.trans sBB).trans sR
            have hc := sjR _ _ hacc
            have lu := hpt.length
            rw [List.length_take] at lu
            refine ⟨acc, hc, (by omega), AT.Same.new (sj.trans sjR) gC, acc ++ [.ref r], upd_same, ?_⟩
            rw [List.take_add_one, eq]
            exact ((hpt.up sjR).app ⟨r, c1, c2, rfl, upd_same, qA.up sR, qB.up sR⟩).set hc
          obtain ⟨s8, ac8, hac8, hpt⟩ := hP
          rw [lm, List.take_length] at hpt
          have lpt := hpt.length
          refine fun m2 dm2 gm gdm hne => ?_
          have v1 : Same H8 (upd (upd H8 dm2 (.own m2)) m2 (.ins (cM K) dm2 [])) := AT.Same.new (AT.Same.up gdm) gm
          refine ⟨m2, dm2, .ref C, rfl, upd_same, .lst (v1 _ _ hac8), .inr ⟨ac8, qs, ⟨C, rfl, .inl (v1 _ _ hac8)⟩, (by omega), fun i p ep => ?_, fF.1, .inl ⟨lpt.symm, fun H9 keep im => ⟨rfl, ?_⟩⟩⟩⟩
          · have bq := fF.2.1 p (List.mem_of_getElem? ep)
            obtain ⟨vv, ev, t, xx, yy, rfl, ht, hxx, hyy⟩ := hpt.get ep
            exact ⟨⟨up bq.1 (by decide), up bq.2 (by decide)⟩, _, ev, .ref xx, .ref yy, ⟨t, rfl, .inr (v1 _ _ ht)⟩, .obj (hxx.up v1), .obj (hyy.up v1)⟩
          have s9 : Same HD H9 := s8.trans fun b o z => keep b o (ne_of_none z gm) (v1 _ _ z)
          rw [bend_full fF.1, eF] at im
          have hm9 := hmD.up s9
          have hL9 := hLD.up s9
          have b9 := bD.up s9
          have sH9 := sD.trans s9
          clear hpt hac8 s8 keep v1 LF gC gF hLt hmt hPt hrt sHt xt bt hmc hLc hPc bc sc hmA hLA bA sA hmB hLB bB xB hmC hLC bC xC xD hmD hLD bD sC sD s9
          obtain ⟨da, ta, wa, a1, a2, a3⟩ := id im
          obtain ⟨db, tb, wb, e1, e2, e3⟩ := id hm9
          refine ⟨_, rfl, _, rfl, m2, da, _, rfl, a1, ⟨_, T.ins_TempoMap e1, .inl rfl⟩, m2, .ref m, _, rfl, im, .inl ⟨m, _, rfl, hm9, true, congrArg V.bl (decide_eq_true rfl), false, rfl, iteF ?_⟩⟩
          refine ⟨_, rfl, _, rfl, m2, da, _, rfl, a1, ⟨_, T.ins_TempoMap e1, .inl rfl⟩, m2, .ref m, _, rfl, im, .inl ⟨m, _, rfl, hm9, true, congrArg V.bl (decide_eq_true rfl), iteF ?_⟩⟩
          -- of its own points
          refine ⟨_, rfl, m, db, _, rfl, e1, rfl, m, _, rfl, hm9, fun D7 us7 H7 s7 gD7 hD7 pt7 => ?_⟩
          have l7 := pt7.length
          refine fun m3 dm3 gm3 gdm3 hne3 => ?_
          have v3 : Same H7 (upd (upd H7 dm3 (.own m3)) m3 (.ins (cM K) dm3 [])) := AT.Same.new (AT.Same.up gdm3) gm3
          refine ⟨m3, dm3, .ref D7, rfl, upd_same, .lst (v3 _ _ hD7), .inr ⟨us7, PL.bendF ps, ⟨D7, rfl, .inl (v3 _ _ hD7)⟩, (by have := fmB.2.2.1; omega), fun i p ep => ?_, fmB.1, .inl ⟨l7.symm, fun H10 keep3 im3 => ⟨rfl, ?_⟩⟩⟩⟩
          · obtain ⟨vv, ev, t, xx, yy, rfl, ht, hxx, hyy⟩ := pt7.get ep
            exact ⟨fmB.2.1 p (List.mem_of_getElem? ep), _, ev, .ref xx, .ref yy, ⟨t, rfl, .inr (v3 _ _ ht)⟩, .obj (hxx.up v3), .obj (hyy.up v3)⟩
          have s10 : Same H9 H10 := s7.trans fun b o z => keep3 b o (ne_of_none z gm3) (v3 _ _ z)
          rw [bend_full fmB.1, PL.bends_bends (ris_of hris)] at im3
          have hm10 := hm9.up s10
          have hL10 := hL9.up s10
          have b10 := b9.up s10
          have sH10 := sH9.trans s10
          clear pt7 hD7 gD7 v3 keep3 s7 s10
          obtain ⟨dc, tc, wc, c1, c2, c3⟩ := id im3
          obtain ⟨dd, td, wd, d1, d2, d3⟩ := id hm10
          refine ⟨_, rfl, m3, dc, _, rfl, c1, ⟨_, T.ins_TempoMap d1, .inl rfl⟩, m3, .ref m, _, rfl, im3, .inl ⟨m, _, rfl, hm10, true, congrArg V.bl (decide_eq_true rfl), false, rfl, iteF ?_⟩⟩
          -- a bent one
          refine ⟨_, rfl, m, dd, _, rfl, d1, rfl, m, _, rfl, hm10, fun D8 us8 H11 s11 gD8 hD8 pt8 => ?_⟩
          have hu8 : us8 ≠ [] := by
            rintro rfl
            have := pt8.length
            exact fmB.2.2.2 (List.length_eq_zero_iff.mp this.symm)
          obtain ⟨vl, pl, evl, epl, ptl⟩ := pt8.last hu8
          obtain ⟨tl, xa, ya, rfl, htl, hxa, hya⟩ := ptl
          have bl := bend_bits hF.l pl (List.mem_of_getLast? epl)
          obtain ⟨dxa, exa⟩ := id hxa
          have up3 : ∀ {q : Rat}, Bits 300 q → Bits 3000 q := fun h => h.mono (by decide)
          have l8 := pt8.length
          have hm11 := hm10.up s11
          have hL11 := hL10.up s11
          have b11 := b10.up s11
          have sH11 := sH10.trans s11
          have nD8 : H' D8 = none := none_of sH10 gD8
          have nD8D : D ≠ D8 := by rintro rfl; rw [hL10.at_] at gD8; cases gD8
          have nD8p : D8 ≠ p := box_ne b10 gD8
          have b1 : Bits 10 (((1 : Int) : Rat)) := ⟨by decide +kernel, by decide +kernel⟩
          have b32 : Bits 10 (Rat.divInt 3 2) := ⟨by decide +kernel, by decide +kernel⟩
          refine ⟨_, rfl, tyV_lst hD8, _, rfl, _, rfl, D8, _, _, _, rfl, rfl, SqL.of hD8, at_last evl, tl, _, 0, _, rfl, rfl, SqT.of htl, rfl, xa, dxa, _, _, rfl, exa, .base (.int 1), .inr ⟨"int", rfl, by decide⟩, xa, .int 1, pl.1, rfl, hxa, up3 bl.1, .int _, .inl ⟨_, .int 1, b1.mono (by decide), fun w1 Hb1 sb1 gw1 qw1 => ?_⟩⟩
          have hya1 := hya.up sb1
          refine ⟨_, rfl, _, rfl, D8, _, _, _, rfl, rfl, SqL.of (sb1 _ _ hD8), at_last evl, tl, _, 1, _, rfl, rfl, SqT.of (sb1 _ _ htl), rfl, fun u e gu ge _ => ⟨u, e, _, _, rfl, upd_same, .int _, .int _, .inl ⟨3, 2, rfl, rfl, by decide, by decide +kernel, rfl, ?_⟩⟩⟩
          have sm := made_same (o1 := .ins (cA K) e []) (o2 := .ins (cA K) e (amtQ (Rat.divInt 3 2))) gu ge
          have hu2 : IsQ K (upd (upd (upd Hb1 e (.own u)) u (.ins (cA K) e [])) u (.ins (cA K) e (amtQ (Rat.divInt 3 2)))) u (Rat.divInt 3 2) := ⟨e, upd_same⟩
          have hya2 := hya1.up sm
          have sb12 := sb1.trans sm
          obtain ⟨dya, eya⟩ := id hya2
          obtain ⟨du, eu⟩ := id hu2
          refine ⟨ya, dya, _, _, rfl, eya, T.ins_Amount eu, .inl rfl, ya, .ref u, pl.2, rfl, hya2, up3 bl.2, .amt hu2, .inl ⟨_, .obj hu2, b32.mono (by decide), fun w2 Hb3 sb3 gw2 qw2 => ?_⟩⟩
          refine ⟨(by show 2 ≤ sizeLine; decide), fun tn gn => ?_⟩
          have sn := AT.Same.up (o := .tup [.ref w1, .ref w2]) gn
          have sAll := sb12.trans (sb3.trans sn)
          have hD8n := sAll _ _ hD8
          have hlb := bend_count hF.l
          refine ⟨D8, us8, _, rfl, rfl, hD8n, (by omega), ?_⟩
          have nN : SameN H11 (upd (upd Hb3 tn (.tup [.ref w1, .ref w2])) D8 (.lst (us8 ++ [.ref tn]))) := (sameN_of sAll).trans (sameN_set hD8n)
          have pt9 : Pts K (upd (upd Hb3 tn (.tup [.ref w1, .ref w2])) D8 (.lst (us8 ++ [.ref tn]))) (us8 ++ [.ref tn]) (PL.bendF ps ++ [(pl.1 + ((1 : Int) : Rat), pl.2 + Rat.divInt 3 2)]) := ((pt8.up sAll).app ⟨tn, w1, w2, rfl, upd_same, (qw1.up (sm.trans (sb3.trans sn))), qw2.up sn⟩).set hD8n
          have hm12 := hm11.upN nN
          have hL12 : Lst (upd (upd Hb3 tn (.tup [.ref w1, .ref w2])) D8 (.lst (us8 ++ [.ref tn]))) D ws ps := ⟨by rw [upd_ne nD8D]; exact sAll _ _ hL11.at_, hL11.lps.upT nN.t⟩
          have b12 : BoxAt (upd (upd Hb3 tn (.tup [.ref w1, .ref w2])) D8 (.lst (us8 ++ [.ref tn]))) p _ := (b11.up sAll).new nD8p
          have sH12 : Same H' (upd (upd Hb3 tn (.tup [.ref w1, .ref w2])) D8 (.lst (us8 ++ [.ref tn]))) := AT.Same.new (sH11.trans sAll) nD8
          have hD12 : upd (upd Hb3 tn (.tup [.ref w1, .ref w2])) D8 (.lst (us8 ++ [.ref tn])) D8 = some (.lst (us8 ++ [.ref tn])) := upd_same
          generalize upd (upd Hb3 tn (.tup [.ref w1, .ref w2])) D8 (.lst (us8 ++ [.ref tn])) = H12 at pt9 hm12 hL12 b12 sH12 hD12 ⊢
          have e1' : (pl.1 + ((1 : Int) : Rat), pl.2 + Rat.divInt 3 2) = (pl.1 + 1, pl.2 + 3 / 2) := by
            rw [show ((1 : Int) : Rat) = 1 from rfl, show Rat.divInt 3 2 = 3 / 2 by decide +kernel]
          have risB : PL.Ris (PL.bendF ps ++ [(pl.1 + 1, pl.2 + 3 / 2)]) := PL.ris_snoc (PL.bendF_ris (ris_of hris)) fun z hz => by
            rw [epl] at hz
            cases hz
            exact ⟨by show pl.1 < pl.1 + 1; grind, by show pl.2 < pl.2 + 3 / 2; grind⟩
          have bB : ∀ q ∈ PL.bendF ps ++ [(pl.1 + ((1 : Int) : Rat), pl.2 + Rat.divInt 3 2)], BitsP 400 q := by
            intro q hq
            rcases List.mem_append.mp hq with z | z
            · exact fmB.2.1 q z
            · rw [List.mem_singleton.mp z]
              exact ⟨(bl.1.add b1).mono (by decide), (bl.2.add b32).mono (by decide)⟩
          rw [e1'] at pt9 bB
          have l9 := pt9.length
          have l9' : (us8 ++ [V.ref tn]).length = us8.length + 1 := by simp
          refine ⟨_, rfl, fun m4 dm4 gm4 gdm4 hne4 => ?_⟩
          have v4 : Same H12 (upd (upd H12 dm4 (.own m4)) m4 (.ins (cM K) dm4 [])) := AT.Same.new (AT.Same.up gdm4) gm4
          refine ⟨m4, dm4, .ref D8, rfl, upd_same, .lst (v4 _ _ hD12), .inr ⟨us8 ++ [.ref tn], PL.bendF ps ++ [(pl.1 + 1, pl.2 + 3 / 2)], ⟨D8, rfl, .inl (v4 _ _ hD12)⟩, (by omega), fun i p ep => ?_, rising_of risB, .inl ⟨l9.symm, fun H13 keep4 im4 => ⟨rfl, ?_⟩⟩⟩⟩
          · obtain ⟨vv, ev, t, xx, yy, rfl, ht, hxx, hyy⟩ := pt9.get ep
            exact ⟨bB p (List.mem_of_getElem? ep), _, ev, .ref xx, .ref yy, ⟨t, rfl, .inr (v4 _ _ ht)⟩, .obj (hxx.up v4), .obj (hyy.up v4)⟩
          have s13 : Same H12 H13 := fun b o z => keep4 b o (ne_of_none z gm4) (v4 _ _ z)
          rw [bend_full (rising_of risB)] at im4
          have hm13 := hm12.up s13
          have hL13 := hL12.up s13
          have b13 := b12.up s13
          have sH13 := sH12.trans s13
          have hD13 := s13 _ _ hD12
          obtain ⟨df, tf, wf, f1, f2, f3⟩ := id im4
          obtain ⟨dg, tg, wg, g1, g2, g3⟩ := id hm13
          refine ⟨_, rfl, m4, df, _, rfl, f1, ⟨_, T.ins_TempoMap g1, .inl rfl⟩, m4, .ref m, _, rfl, im4, .inl ⟨m, _, rfl, hm13, false, congrArg V.bl (decide_eq_false (PL.bent_ne (PL.bendF_ris (ris_of hris)) epl)), iteF ?_⟩⟩
          refine ⟨_, rfl, _, rfl, m, dg, _, rfl, g1, ⟨_, .base (.lst hD13), .inr ⟨"list", rfl, by decide⟩⟩, m, .ref D8, _, rfl, hm13, .inr ⟨D8, _, rfl, hD13, false, rfl, iteF ?_⟩⟩
          refine ⟨_, rfl, _, rfl, _, rfl, p, _, m, D, ws, ps, rfl, b13, (by omega), hm13, hL13, hF, hDp, fun HZ xZ bZ => ⟨_, rfl, iteF ?_⟩⟩
          exact ⟨_, _, _, _, _, _, _, _, _, rfl, s1.trans (same_x sH13 hp xZ)⟩
    · rintro σ' H' ⟨o1, o2, o3, o6, o7, o8, o9, o12, o13, rfl, s1⟩
      have e0 : bendQ [] = [((0 : Rat), (0 : Rat))] := by
        rw [bend_full (ps := []) trivial]
        rfl
      refine fun m1 dm1 gm1 gdm1 hne1 => ?_
      have v1 : Same H' (upd (upd H' dm1 (.own m1)) m1 (.ins (cM K) dm1 [])) := AT.Same.new (AT.Same.up gdm1) gm1
      refine ⟨m1, dm1, rfl, upd_same, fun H1 keep1 im1 => ⟨rfl, ?_⟩⟩
      rw [e0] at im1
      obtain ⟨da, ta, wa, a1, a2, a3⟩ := id im1
      refine ⟨m1, da, _, rfl, a1, rfl, m1, _, rfl, im1, fun D2 us2 H2 s2 gD2 hD2 pt2 => ?_⟩
      refine ⟨D2, us2, _, rfl, hD2, pt2, (by decide), fun D3 ws3 H3 s3 gD3 L3 => ?_⟩
      refine ⟨(by show 2 ≤ sizeLine; decide), fun t1 g1 => ⟨(by show 2 ≤ sizeLine; decide), fun t2 g2 => ⟨(by show 2 ≤ sizeLine; decide), fun t3 g3 => ⟨(by show 1 ≤ sizeLine; decide), fun e ge => ?_⟩⟩⟩⟩
      have u1 := AT.Same.up (o := .tup [.int 0, .int 1]) g1
      have u2 := AT.Same.up (o := .tup [.int 0, .int 1]) g2
      have u3 := AT.Same.up (o := .tup [.ref t1, .ref t2]) g3
      have u4 := AT.Same.up (o := .lst [.ref t3]) ge
      have L4 : Lst (upd (upd (upd (upd H3 t1 (.tup [.int 0, .int 1])) t2 (.tup [.int 0, .int 1])) t3 (.tup [.ref t1, .ref t2])) e (.lst [.ref t3])) e [.ref t3] [((0 : Rat), (0 : Rat))] := ⟨upd_same, .cons ⟨t3, .ref t1, .ref t2, rfl, u4 _ _ upd_same, ⟨t1, rfl, ((u2.trans u3).trans u4) _ _ upd_same⟩, ⟨t2, rfl, (u3.trans u4) _ _ upd_same⟩⟩ .nil⟩
      refine ⟨dl _, dl _, (L3.up ((u1.trans u2).trans (u3.trans u4))).dp, L4.dp, shaped_dl _, shaped_dl _, true, congrArg V.bl (same_dl rfl), iteT ?_⟩
      generalize upd (upd (upd (upd H3 t1 (.tup [.int 0, .int 1])) t2 (.tup [.int 0, .int 1])) t3 (.tup [.ref t1, .ref t2])) e (.lst [.ref t3]) = H4
      refine ⟨Nat.zero_le _, fun e5 ge5 => fun m2 dm2 gm2 gdm2 hne2 => ?_⟩
      have u5 := AT.Same.up (o := .lst []) ge5
      have v2 : Same (upd H4 e5 (.lst [])) (upd (upd (upd H4 e5 (.lst [])) dm2 (.own m2)) m2 (.ins (cM K) dm2 [])) := AT.Same.new (AT.Same.up gdm2) gm2
      refine ⟨m2, dm2, .ref e5, rfl, upd_same, .lst (v2 _ _ upd_same), .inr ⟨[], [], ⟨e5, rfl, .inl (v2 _ _ upd_same)⟩, (by decide), (fun i p ep => by simp at ep), trivial, .inl ⟨rfl, fun H5 keep2 im2 => ⟨rfl, ?_⟩⟩⟩⟩
      refine fun m3 dm3 gm3 gdm3 hne3 => ?_
      have v3 : Same H5 (upd (upd H5 dm3 (.own m3)) m3 (.ins (cM K) dm3 [])) := AT.Same.new (AT.Same.up gdm3) gm3
      refine ⟨m3, dm3, rfl, upd_same, fun H6 keep3 im3 => ⟨rfl, ?_⟩⟩
      have s6 : Same H5 H6 := fun b o z => keep3 b o (ne_of_none z gm3) (v3 _ _ z)
      have im2' := im2.up s6
      obtain ⟨db, tb, wb, b1, b2, b3⟩ := id im2'
      obtain ⟨dc, tc, wc, c1, c2, c3⟩ := id im3
      refine ⟨m2, db, _, rfl, b1, ⟨_, T.ins_TempoMap c1, .inl rfl⟩, m2, .ref m3, _, rfl, im2', .inl ⟨m3, _, rfl, im3, ?_⟩⟩
      rw [decide_eq_true rfl]
      exact k H6
end
end K08

set_option maxHeartbeats 0
namespace K08
open PySem PySem.Spec PyProof.Rows L2 AT
abbrev R : PySem.W.OpenRow := PySem.W.OpenLaw.row PySem.Challenge.rw_anytempo_k08_maps_told
abbrev hk : PySem.W.Hook := hookA 5 fn ex
def ob (s : PySem.W.SharedT) : AlA := obsAG 5 fn ex (HandSHeadRun.getT s)
theorem ob_eq (s : PySem.W.SharedT) : ob s = hk.obs s.abs := obsAG_eq (HandSHeadRun.getT_eq s)
theorem run (w : World) : HandSHeadRun.RunEq R (PySem.W.view R.prog [lawAt]) hk ob 20000 names w := by
  intro os
  kernel_rfl
end K08

set_option maxHeartbeats 0
open PySem PySem.W PySem.Calls PyProof.Rows
theorem PySem.Challenge.cw_anytempo_k08_maps_told_holds : PySem.Challenge.rw_anytempo_k08_maps_told.Holds := by
  w_on; o_law
  refine HandSHeadRun.head_any (r := OpenLaw.row PySem.Challenge.rw_anytempo_k08_maps_told) (q := view (OpenLaw.row PySem.Challenge.rw_anytempo_k08_maps_told).prog [K08.lawAt]) (H := K08.hk) (ob := K08.ob) (M := 20000) (loose := K08.names) (d := HandSHeadRun.topDef (OpenLaw.row PySem.Challenge.rw_anytempo_k08_maps_told).prog K08.lawAt) (kwd := []) K08.ob_eq
    (by kernel_rfl) (fun s => by kernel_rfl) K08.run (by kernel_rfl) (by kernel_rfl) (by kernel_rfl) (by rfl) (by first | assumption | decide +kernel) (by decide +kernel) ⟨rfl, rfl, rfl, rfl, rfl, by decide +kernel⟩ ?hw ?hc
  case hw => w_witness2
  case hc =>
    refine AT.walkO (l := PySem.Challenge.rw_anytempo_k08_maps_told) (n := 63) (k := 16) (x := "_law_script") (CX := fun w => L2.CX PySem.Challenge.rw_anytempo_k08_maps_told.prog w) rfl (by decide) (by kernel_rfl) ⟨rfl, by decide, by decide⟩ ?F (fun w H s e s' z => AT.cx_false z)
    intro w mg fa h Y G hmg0
    obtain ⟨K, KX, c⟩ := Y
    have e : (HandSHeadRun.topDef (OpenLaw.row PySem.Challenge.rw_anytempo_k08_maps_told).prog K08.lawAt).name = ("law" : PySem.Str) := by kernel_rfl
    rw [e] at hmg0
    have T : K08.Tx K mg h := ⟨c, KX, G⟩
    have e2 := hmg0.symm.trans T.g_law
    cases e2
    refine ⟨K, K08.spLaw K, KX, fun H a ns hl _ hS => ⟨a, ns, rfl, hS, fun _ => rfl⟩, fun base kb gb => ?_⟩
    obtain ⟨fd, hF, hb, _⟩ := K08.ok_law (P := PySem.Challenge.rw_anytempo_k08_maps_told.prog) (w := w) ⟨c, kb, gb⟩
    exact ⟨fd, ⟨hF.len, fun A outer s H args us vs Q E _ => hF.run A outer s H args us vs Q E⟩, hb⟩

