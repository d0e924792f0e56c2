import PyProof.Rows.All
import Wide.All
import OpenK.AllK
import Wide.FinOn
import PyProof.ReprRoads
import HandS.ForMost
import HandS.ForExc
import HandS.ExcInit
import HandS.ExcField
import HandS.ExcIs
import HandS.TryMany
import HandS.IsInst
import HandS.Defaults
import HandS.Property
import HandS.Wide
import HandS.FStr
import HandS.StrMore
import HandS.Steps
import HandS.CallSlots
import HandS.Head0
import HandS.Head1
import HandS.Head2
import HandS.HeadEnd
import HandS.HeadHook1
import HandS.HeadHook2
import HandS.ClsMeth
import HandS.Walk
import KE.KOpsOwn
import HandS.OwnEq
import PyProof.NeKinds
import KE.GoesMore
import HandS.Zip
import HandS.Evl
import HandS.DictComp
import HandS.Star
import KE.IntTextLaws
import HandS.Style
import PySem.Challenge.RW_anytempo_k09_maps_there_and_back
set_option Elab.async false
set_option linter.all false
set_option maxRecDepth 100000
set_option maxHeartbeats 4000000
namespace AT
open PySem PySem.Spec PyProof.Rows L2
/-! ### the hook: facts of what the top leaves -/
def asA (g : Addr → Option Obj) : Nat → List Addr
  | 0 => [mainGlobals, cStatics]
  | n + 1 => He.growD g (asA g n)
/-- one def: where it stands, its name, qualified name, parameters, body, scope, defaults, keyword-only defaults -/
structure FD where
  loc : PySem.W.Frag → Addr
  name : Str
  qual : Str
  params : Arguments
  body : List Stmt
  scope : Scope
  dfl : List He.Dv := []
  kwd : List (Str × He.Dv) := []
def fdOf (loc : PySem.W.Frag → Addr) (name qual : Str) (st : Stmt) (dfl : List He.Dv := []) (kwd : List (Str × He.Dv) := []) : FD := ⟨loc, name, qual, defArgs st, defBody st, defScope st, dfl, kwd⟩
def fobs (K : PySem.W.Frag) (a : Addr) : He.FnW := match K.lookup a with
  | some ⟨_, _, .func u, _⟩ => some (u.name, u.qualname, u.params, u.body, u.scope, u.globals, u.closure, u.builtins)
  | _ => none
def FD.val (d : FD) : He.FnW := some (d.name, d.qual, d.params, .stmts d.body, d.scope, mainGlobals, [], builtinsNs)
def FD.dvs (K : PySem.W.Frag) (d : FD) : List V := d.dfl.map (He.Dv.v K)
def FD.kws (K : PySem.W.Frag) (d : FD) : List (Str × V) := d.kwd.map fun z => (z.1, z.2.v K)
def FD.ok (K : PySem.W.Frag) (d : FD) : Bool := PySem.W.keepIn K (.ref (d.loc K)) && (match K.lookup (d.loc K) with
  | some ⟨_, _, .func u, _⟩ => PySem.W.codeIn K u.code d.qual && (He.dflB K u.defaults (d.dvs K) && He.kwdB K u.kwdefaults (d.kws K))
  | _ => false)
theorem FD.funD {K : PySem.W.Frag} {d : FD} (e : fobs K (d.loc K) = d.val) (c : d.ok K = true) : ∃ fd, FunD K d.name d.qual d.params d.body d.scope (d.dvs K) (d.kws K) (d.loc K) fd := by
  obtain ⟨kp, c2⟩ := He.ba c
  unfold fobs at e
  cases hl : K.lookup (d.loc K) with
  | none =>
    rw [hl] at c2
    cases c2
  | some o =>
    obtain ⟨oc, od, dt, osl⟩ := o
    rw [hl] at c2 e
    cases dt with
    | func u =>
      obtain ⟨u1, u2, u3, u4, u5, u6, u7, u8, u9, u10, u11, u12, u13, u14, u15⟩ := u
      have e2 : (some (u1, u2, u3, u4, u5, u6, u7, u15) : He.FnW) = some (d.name, d.qual, d.params, .stmts d.body, d.scope, mainGlobals, [], builtinsNs) := e
      simp only [Option.some.injEq, Prod.mk.injEq] at e2
      obtain ⟨rfl, rfl, rfl, rfl, rfl, rfl, rfl, rfl⟩ := e2
      obtain ⟨k1, k2⟩ := He.ba (show (PySem.W.codeIn K u13 d.qual && (He.dflB K u8 (d.dvs K) && He.kwdB K u9 (d.kws K))) = true from c2)
      obtain ⟨k3, k4⟩ := He.ba k2
      exact ⟨_, ⟨oc, od, u8, u9, u10, u11, u12, u13, u14, osl, rfl, hl, k1, He.dflB_ok k3, He.kwdB_ok k4⟩, kp⟩
    | _ => cases c2
/-- the getter of a property of the class x -/
def propAt (x f : Str) (K : PySem.W.Frag) : Addr := match PySem.W.findIn K (.ref (He.ga K x)) f with
  | some (some (.ref p)) => (match PySem.W.recIn K p "property" with
    | some (.ref g :: _) => g
    | _ => 0)
  | _ => 0
abbrev AlA : Type := Bool × List He.FnW
abbrev Ex := List (PySem.W.Frag → Bool)
def obsA (fn : List FD) (ex : Ex) (K : PySem.W.Frag) : AlA :=
  (ex.all (fun e => e K) && fn.all (fun d => d.ok K), fn.map fun d => fobs K (d.loc K))
def valA (fn : List FD) : AlA := (true, fn.map FD.val)
def SaysA (fn : List FD) (ex : Ex) (K : PySem.W.Frag) : Prop := obsA fn ex K = valA fn
def obsAG (n : Nat) (fn : List FD) (ex : Ex) (g : Addr → Option Obj) : AlA := obsA fn ex (He.frG g (sysModules :: asA g n))
def hookA (n : Nat) (fn : List FD) (ex : Ex) : PySem.W.Hook where
  α := AlA
  obs := fun s => obsAG n fn ex s.heap.get?
  val := fun _ => valA fn
  says := fun _ h => ∃ K : PySem.W.Frag, K.In h ∧ SaysA fn ex K
  of := fun _ _ e => ⟨_, He.frG_in, e⟩
  keeps := fun _ _ _ ⟨K, hK, c⟩ k => ⟨K, PySem.W.Frag.In.keeps hK k, c⟩
theorem obsAG_eq {n : Nat} {fn : List FD} {ex : Ex} {g : Addr → Option Obj} {s : Shared} (h : ∀ a, g a = s.heap.get? a) : obsAG n fn ex g = (hookA n fn ex).obs s := by
  have q : g = s.heap.get? := funext h
  subst q
  rfl
section
variable {fn : List FD} {ex : Ex} {K : PySem.W.Frag}
theorem SaysA.more (c : SaysA fn ex K) (i : Nat) {e : PySem.W.Frag → Bool} (h : ex[i]? = some e := by rfl) : e K = true :=
  List.all_eq_true.mp (He.ba (congrArg (fun z : AlA => z.1) c)).1 e (List.mem_of_getElem? h)
theorem SaysA.fun_ (c : SaysA fn ex K) (i : Nat) {d : FD} (h : fn[i]? = some d := by rfl) : ∃ fd, FunD K d.name d.qual d.params d.body d.scope (d.dvs K) (d.kws K) (d.loc K) fd := by
  have c2 := (He.ba (show (ex.all (fun e => e K) && fn.all (fun d => d.ok K)) = true from congrArg (fun z : AlA => z.1) c)).2
  have e2 : (fn.map fun d => fobs K (d.loc K))[i]? = (fn.map FD.val)[i]? := congrArg (fun z : AlA => z.2[i]?) c
  rw [List.getElem?_map, List.getElem?_map, h] at e2
  exact FD.funD (Option.some.inj e2) (List.all_eq_true.mp c2 d (List.mem_of_getElem? h))
end
/-! ### facts of the module's names -/
def gloB (x : Str) (K : PySem.W.Frag) : Bool := He.eqO (PySem.W.nsIn K mainGlobals x) (some (some (.ref (He.ga K x))))
def freeB (x : Str) (K : PySem.W.Frag) : Bool := He.eqO (PySem.W.nsIn K mainGlobals x) (some none)
def conB (x : Str) (v : V) (K : PySem.W.Frag) : Bool := match PySem.W.nsIn K mainGlobals x with
  | some (some u) => He.relB v u
  | _ => false
theorem conB_ok {K : PySem.W.Frag} {h : Heap} {mg : Str → Option Value} {x : Str} {v : V} (X : K.In h) (G : h.Ns mainGlobals mg) (c : conB x v K = true) : ∃ u, mg x = some u ∧ RelV v u := by
  unfold conB at c
  split at c
  · rename_i u hu
    exact ⟨u, PySem.W.mg_of X G hu, He.relB_ok c⟩
  · cases c
def clsB (x : Str) (K : PySem.W.Frag) : Bool := (He.Fa.cls x).ok K
def noatB (x f : Str) (K : PySem.W.Frag) : Bool := (He.Fa.noat x f).ok K
def methB (x f : Str) (K : PySem.W.Frag) : Bool := (He.Fa.meth x f).ok K
def mkrB (x : Str) (K : PySem.W.Frag) : Bool := (He.Fa.mkr x).ok K
def exmB (x y : Str) (b : Bool) (K : PySem.W.Frag) : Bool := (He.Fa.exm x y b).ok K
def lstB (x : Str) (vs : List He.Dv) (K : PySem.W.Frag) : Bool := He.lstB K x vs
/-- a property of the class x: PropOf -/
def propB (x f : Str) (K : PySem.W.Frag) : Bool := match PySem.W.findIn K (.ref (He.ga K x)) f with
  | some (some (.ref p)) => He.eqO (PySem.W.specialIn K (.ref p) "__get__") (some (some (.builtin "property.__get__"))) && (decide (PySem.W.takesIn K (.ref p) = some true) && (match PySem.W.recIn K p "property" with
    | some (.ref _ :: _) => true
    | _ => false))
  | _ => false
theorem propB_ok {K : PySem.W.Frag} {x f : Str} (h : propB x f K = true) : ∃ p, PropOf K (He.ga K x) f p (propAt x f K) := by
  unfold propB at h
  split at h
  · rename_i p hp
    obtain ⟨h1, h⟩ := He.ba h
    obtain ⟨h2, h3⟩ := He.ba h
    split at h3
    · rename_i g rest hr
      have e : propAt x f K = g := by
        unfold propAt
        rw [hp]
        simp only [hr]
      exact ⟨p, hp, He.eqO_ok h1, of_decide_eq_true h2, rest, by rw [e]; exact hr⟩
    · cases h3
  · cases h
/-- isinstance of instances of the own class x -/
def insB (x : Str) (K : PySem.W.Frag) : Bool := He.eqO (PySem.W.findIn K (.ref (He.ga K x)) "__class__") (some (some (.builtin "object.__class__"))) &&
  (He.eqO (PySem.W.specialIn K (.builtin "object.__class__") "__get__") (some (some (.builtin "getset_descriptor.__get__"))) &&
  (decide (PySem.W.takesIn K (.builtin "object.__class__") = some true) && decide (PySem.W.mroIn K (He.ga K x) (.type "object") = some true)))
theorem insB_ok {K : PySem.W.Frag} {x : Str} (h : insB x K = true) (c : Cls K (He.ga K x)) {H : Hp} {a dx : Addr} {fs : List (Str × V)} (e : H a = some (.ins (He.ga K x) dx fs)) : TyX K H (.ref a) (.ref (He.ga K x)) := by
  obtain ⟨h1, h⟩ := He.ba h
  obtain ⟨h2, h⟩ := He.ba h
  obtain ⟨h3, h4⟩ := He.ba h
  exact .base (.ins e c (He.eqO_ok h1) (He.eqO_ok h2) (of_decide_eq_true h3) (of_decide_eq_true h4))
/-- isinstance of a value of the type t (built-in, by name; "" : the own class x) with the class c -/
def kitB (t : PySem.W.Frag → Value) (c : PySem.W.Frag → Value) (b : Bool) (K : PySem.W.Frag) : Bool := decide (PySem.W.kitOne K (t K) (c K) = some b)
theorem kitB_ok {K : PySem.W.Frag} {t c : PySem.W.Frag → Value} {b : Bool} (h : kitB t c b K = true) : PySem.W.kitOne K (t K) (c K) = some b := of_decide_eq_true h
/-- sys.modules stands in the part that is looked at -/
def sysB (K : PySem.W.Frag) : Bool := match K.lookup sysModules with
  | some ⟨.type c, _, _, _⟩ => decide (c = "dict")
  | _ => false
theorem sysB_ok {K : PySem.W.Frag} (h : sysB K = true) : ∃ o, K.lookup sysModules = some o ∧ o.cls = .type "dict" := by
  unfold sysB at h
  split at h
  · rename_i c dd dt sl ho
    exact ⟨_, ho, congrArg Value.type (of_decide_eq_true h)⟩
  · cases h
/-! ### exception classes: what is looked at -/
/-- an own class over ValueError with its own __init__, with the base class at B of the package -/
def excB (K : PySem.W.Frag) (C : Addr) : Bool := match K.lookup C with
  | some ⟨.type t, _, .cls cd, sl⟩ => (match cd.mro, sl.toList with
    | .ref D :: bm, [_, _, _, _, some (.builtin n), _] => decide (t = "type") && (decide (D = C) && (decide (n = "ValueError.__new__") && (!cd.hasDel && (cd.hasDict && HandSPX.refsVE bm))))
    | _, _ => false)
  | _ => false
theorem excB_ok {K : PySem.W.Frag} {C : Addr} (h : excB K C = true) :
    ∃ nm q N bs bm sn sub ab col dd k0 k1 k2 k3 k5, K.lookup C = some (excClassObj nm q C N bs bm true sn sub ab col dd k0 k1 k2 k3 k5 "ValueError.__new__") ∧ PySem.HandSPX.refsVE bm = true := by
  unfold excB at h
  split at h
  · rename_i t dd cd sl ho
    split at h
    · rename_i D bm k0 k1 k2 k3 n k5 hm hs
      simp only [Bool.and_eq_true, decide_eq_true_eq, Bool.not_eq_true'] at h
      obtain ⟨rfl, rfl, rfl, hdel, hdic, ht⟩ := h
      obtain ⟨nm, bs, mro, ns, qn, hd, sn, sub, ab, col, del⟩ := cd
      dsimp only at hm hdel hdic
      subst hm hdel hdic
      have hsl : sl = #[k0, k1, k2, k3, some (.builtin "ValueError.__new__"), k5] := by
        obtain ⟨l⟩ := sl
        simp only at hs
        rw [hs]
      subst hsl
      exact ⟨nm, qn, ns, bs, bm, sn, sub, ab, col, dd, k0, k1, k2, k3, k5, ho, ht⟩
    · cases h
  · cases h
/-- all that is asked of an exception class x with the field f -/
def xcB (K : PySem.W.Frag) (x f : Str) : Bool :=
  excB K (He.ga K x) && (He.eqO (PySem.W.findIn K (.ref (He.ga K x)) "__setattr__") (some (some (.builtin "object.__setattr__"))) &&
  (decide (PySem.W.subIn K (.ref (He.ga K x)) (.type "BaseException") = some true) && (decide (PySem.W.typeIn K (.ref (He.ga K x)) = some (.type "type")) &&
  (PySem.W.keepIn K (.ref (He.ga K x)) && (He.eqO (PySem.W.findIn K (.ref (He.ga K x)) f) (some none) && (xfB K (He.ga K x) &&
  (He.eqO (PySem.W.findIn K (.ref (He.ga K x)) "__init__") (some (some (.ref (He.ma K (He.ga K x) "__init__")))) &&
  (decide (PySem.W.typeIn K (.ref (He.ma K (He.ga K x) "__init__")) = some (.type "function")) &&
  He.eqO (PySem.W.nsIn K mainGlobals x) (some (some (.ref (He.ga K x)))))))))))) 
structure Xc (K : PySem.W.Frag) (x f : Str) : Prop where
  oex : OexC K (He.ga K x)
  xf : XfC K (He.ga K x)
  no : PySem.W.findIn K (.ref (He.ga K x)) f = some none
  ini : PySem.W.findIn K (.ref (He.ga K x)) "__init__" = some (some (.ref (He.ma K (He.ga K x) "__init__")))
  tyi : PySem.W.typeIn K (.ref (He.ma K (He.ga K x) "__init__")) = some (.type "function")
  glo : PySem.W.nsIn K mainGlobals x = some (some (.ref (He.ga K x)))
theorem xcB_ok {K : PySem.W.Frag} {x f : Str} (h : xcB K x f = true) : Xc K x f := by
  obtain ⟨h1, h⟩ := He.ba h
  obtain ⟨h2, h⟩ := He.ba h
  obtain ⟨h3, h⟩ := He.ba h
  obtain ⟨h4, h⟩ := He.ba h
  obtain ⟨h5, h⟩ := He.ba h
  obtain ⟨h6, h⟩ := He.ba h
  obtain ⟨h7, h⟩ := He.ba h
  obtain ⟨h8, h⟩ := He.ba h
  obtain ⟨h9, h10⟩ := He.ba h
  exact ⟨⟨excB_ok h1, He.eqO_ok h2, of_decide_eq_true h3, of_decide_eq_true h4, h5⟩, xfB_ok h7, He.eqO_ok h6, He.eqO_ok h8, of_decide_eq_true h9, He.eqO_ok h10⟩
def valB (c : Option PySem.W.CFound) (u : Value) : Bool := match c with
  | some (.val v) => decide (v = u)
  | _ => false
theorem valB_ok {c : Option PySem.W.CFound} {u : Value} (h : valB c u = true) : c = some (.val u) := by
  unfold valB at h
  split at h
  · rw [of_decide_eq_true h]
  · cases h
/-- the base class of the package: B.__init__ is ValueError's -/
def baB (K : PySem.W.Frag) (B : Str) : Bool :=
  PySem.W.readsIn K (He.ga K B) (.type "type") && (He.eqO (PySem.W.specialIn K (.ref (He.ga K B)) "__getattribute__") (some (some (.builtin "type.__getattribute__"))) &&
  (valB (PySem.W.findCls K (.ref (He.ga K B)) (.type "type") "__init__") (.builtin "ValueError.__init__") &&
  He.eqO (PySem.W.nsIn K mainGlobals B) (some (some (.ref (He.ga K B))))))
structure Ba (K : PySem.W.Frag) (B : Str) : Prop where
  rd : PySem.W.readsIn K (He.ga K B) (.type "type") = true
  ga : PySem.W.specialIn K (.ref (He.ga K B)) "__getattribute__" = some (some (.builtin "type.__getattribute__"))
  ini : PySem.W.findCls K (.ref (He.ga K B)) (.type "type") "__init__" = some (.val (.builtin "ValueError.__init__"))
  glo : PySem.W.nsIn K mainGlobals B = some (some (.ref (He.ga K B)))
theorem baB_ok {K : PySem.W.Frag} {B : Str} (h : baB K B = true) : Ba K B := by
  obtain ⟨h1, h⟩ := He.ba h
  obtain ⟨h2, h⟩ := He.ba h
  obtain ⟨h3, h4⟩ := He.ba h
  exact ⟨h1, He.eqO_ok h2, valB_ok h3, He.eqO_ok h4⟩
end AT

set_option maxHeartbeats 4000000
namespace AT
open PySem PySem.Spec PyProof.Rows L2
section
variable {X : Cx} {e : Expr} {es : List Expr} {ta : TA} {B : Str} {p1 p2 pos : Pos}
/-- B.__init__(self, ..), B an own class over ValueError -/
theorem pe_cinit {look : Sem Bool} (T : Ba X.K B) (hB : Gl X B) (hmB : X.mg B = some (.ref (He.ga X.K B))) (hA : PA X (e :: es) ta)
    (hev : eval (.Call (.Attribute (.Name B p1) "__init__" p2) (e :: es) [] pos) X.env = (do
      let cv ← eval (.Name B p1) X.env
      standAt p2.atName
      let (fv, frst) ← holding [cv] (getMethod cv "__init__" look)
      callWith pos fv frst (backTo pos (starEach (e :: es) X.env)) (backToKw pos (keywordEach [] X.env))) := by rfl)
    (hdb : (B == ("__debug__" : Str)) = false := by decide)
    (hst : starEach (e :: es) X.env = (false, eval e X.env) :: starEach es X.env := by rfl) (hns : (backTo pos (starEach es X.env)).any (·.1) = false := by rfl) :
    PE X (.Call (.Attribute (.Name B p1) "__init__" p2) (e :: es) [] pos) (tVeI X.K ta) := by
  constructor
  intro pins s σ H Q I h
  refine PySem.W.methodCall_KW (ld_glob I hB hmB ?_ hdb) hev
  refine PySem.W.method_cls I.kIn T.ga (PySem.W.cls_value I.kIn T.rd T.ini (by decide +kernel) ?_)
  show wpAny _ _ (callWith pos (Value.builtin "ValueError.__init__") [] (backTo pos (starEach (e :: es) X.env)) []) _ _ _
  refine PyProof.Rows.callWith_method1 (thn (hA.run pos pins _ σ H _ (I.tok _) h) fun vals s1 ⟨vs, H1, I1, r1, a, C, ws, ev, hl, To, ea, q⟩ => ?_) hst hns
  subst ev
  cases r1 with
  | @cons _ v0 _ vr ra rr =>
    obtain rfl : v0 = Value.ref a := ra
    refine oinit_ok To I1 ea ?_ fun s' J => ⟨.non, H1, J, rfl, q⟩
    rw [← Paired.length rr, sizeLine_eq]
    omega
end
/-- what an exception's own __init__(self, f) promises -/
def spXi (K : PySem.W.Frag) (C : Addr) (f : Str) : Sp := fun vs H Q _ => ∃ (a : Addr) (v : V), vs = [.ref a, v] ∧ OexC K C ∧ PySem.W.findIn K (.ref C) f = some none ∧ H a = some (exo a C none) ∧
  ∀ d, H d = none → d ≠ a → Q .non (upd (upd H d (exd d [(f, v)])) a (exo a C (some d)))
/-- its body's reading -/
theorem xi_reading {K : PySem.W.Frag} {C : Addr} {f : Str} {t : Str} {N : List Str} (hN : N = [("self" : Str), f]) (vs : List V) (H : Hp) (Q : VK) (E : XK) (h : spXi K C f vs H Q E) :
    tSeq (tDrop (tVeI K (tCons (tVar 0) (tCons (tC (.str t)) tNil)))) (tOst K f (tVar 0) (tVar 1)) { nx := fun _ H' => Q .non H', rt := Q } (start N vs) H := by
  obtain ⟨a, v, rfl, T, no, ha, k⟩ := h
  subst hN
  refine ⟨_, rfl, a, C, [.str t], rfl, (by show 1 ≤ 1000; decide), T, ha, _, rfl, _, rfl, a, C, rfl, T, no, .inl ⟨ha, k⟩⟩
/-- X(e) -/
abbrev tMk1 (K : PySem.W.Frag) (C : Addr) (f : Str) (te : TE) : L2.St → Hp → XK → Prop := tMkO C (spXi K C f) [] (tCons te tNil)
/-- an exception class x with the field f may be made in X -/
structure MkX (X : Cx) (x f : Str) : Prop where
  run : ∀ {e : Expr} {te : TE} {p pos : Pos}, Gl X x → PE X e te → starEach [e] X.env = (false, eval e X.env) :: starEach [] X.env → PMk X (.Call (.Name x p) [e] [] pos) (tMk1 X.K (He.ga X.K x) f te)
theorem heap_back {H1 : Hp} {a d C : Addr} {fs : List (Str × V)} {o : HO} (ha : H1 a = none) (hd : d ≠ a) :
    upd (del (upd (upd (upd H1 a (exo a C none)) d o) a (exo a C (some d))) a) d (.xd fs) = upd H1 d (.xd fs) := by
  funext b
  by_cases h1 : b = d
  · subst h1
    rw [upd_same, upd_same]
  · rw [upd_ne h1, upd_ne h1]
    by_cases h2 : b = a
    · subst h2
      rw [del_same, ha]
    · rw [del_ne h2, upd_ne h2, upd_ne h1, upd_ne h2]
/-- behind e's value: what the raise asks -/
theorem mk_at {K : PySem.W.Frag} {C : Addr} {f : Str} {v : V} {H1 : Hp} {Q : XK} (T : OexC K C) (no : PySem.W.findIn K (.ref C) f = some none) (k : ∀ d, H1 d = none → Q (.ref C) (some d) (upd H1 d (.xd [(f, v)]))) :
    [v].length ≤ 1000 ∧ ∀ a, H1 a = none → spXi K C f (.ref a :: ([v] ++ [])) (upd H1 a (exo a C none))
      (fun r H2 => r = .non ∧ ∃ (d : Addr) (fs : List (Str × V)), H2 a = some (exo a C (some d)) ∧ H2 d = some (exd d fs) ∧ H1 d = none ∧ Q (.ref C) (some d) (upd (del H2 a) d (.xd fs))) (fun _ _ _ => False) := by
  refine ⟨(by show 1 ≤ 1000; decide), fun a ha => ⟨a, v, rfl, T, no, upd_same, fun d hd hda => ?_⟩⟩
  have hd1 : H1 d = none := by rw [upd_ne hda] at hd; exact hd
  refine ⟨rfl, d, [(f, v)], upd_same, ?_, hd1, ?_⟩
  · rw [upd_ne hda, upd_same]
  · rw [heap_back ha hda]
    exact k d hd1
theorem mkX_of {X : Cx} {x f : Str} {k : Nat} {fd : FuncData} (T : Xc X.K x f) (hm : X.mg x = some (.ref (He.ga X.K x))) (F : FnOk X.prog X.w X.K X.mg X.base (L2.CX X.prog X.w) k (He.ma X.K (He.ga X.K x) "__init__") fd [("self" : Str), f] (spXi X.K (He.ga X.K x) f))
    (hb : Binds X.K fd [("self" : Str), f] []) (hr : Room (k + 1) X.A) (hdb : (x == ("__debug__" : Str)) = false := by decide) : MkX X x f := by
  refine ⟨fun {e te p pos} hg he hst => ?_⟩
  exact pmk_oex T.oex T.ini T.tyi F hr hb .nil passL hg hm (pa_cons he pa_nil hst) hdb hst rfl
/-- raise X(e) -/
theorem ps_rs {X : Cx} {x f : Str} {W : WX} {e : Expr} {te : TE} {p pos pos2 : Pos} (hc : X.calm = true) (M : MkX X x f) (tk : Takes X W) (hg : Gl X x) (he : PE X e te) (hst : starEach [e] X.env = (false, eval e X.env) :: starEach [] X.env := by rfl) :
    PS X (.Raise (some (.Call (.Name x p) [e] [] pos)) none pos2) (fun _ σ H => tMk1 X.K (He.ga X.K x) f te σ H fun cls d H' => W cls d σ H') := ps_raise hc tk (M.run hg he hst)
end AT

set_option maxHeartbeats 4000000
namespace AT
open PySem PySem.Spec PyProof.Rows L2
/-- a clause: the class, the name's slot, the suite's reading -/
abbrev Cla := Value × Nat × (Addr → Value → Option Addr → TS)
def wMas (K : PySem.W.Frag) (Wo : WX) (D : Ends) : List Cla → WX
  | [] => Wo
  | (c, i, ts) :: r => fun cls d σ H => ∃ b, PySem.W.exmOne K cls c = some b ∧
      (b = true → ∀ a, H a = none → ts a cls d { nx := fun σ' H' => D.nx (σ'.set i none) H', rt := D.rt, bk := fun σ' H' => D.bk (σ'.set i none) H', ct := fun σ' H' => D.ct (σ'.set i none) H' } (σ.set i (some (.ref a))) H) ∧
      (b = false → wMas K Wo D r cls d σ H)
inductive HdsAs (X : Cx) : List ExceptHandler → List Cla → Prop
  | nil : HdsAs X [] []
  | cons {x n : Str} {c : Value} {i : Nat} {ts : Addr → Value → Option Addr → TS} {s1 : Stmt} {ss : List Stmt} {q1 q2 : Pos} {hds : List ExceptHandler} {l : List Cla} (hN : X.N.Nodup) (hi : X.N[i]? = some n) (hl : X.env.kindOf n = some .local) (hc : Names X x c)
      (hsu : ∀ (a : Addr) (oe : Obj) (cls : Value) (d : Option Addr) (pn : List (Addr × Obj)), Zc cls d oe → (∃ vs, oe.data = .fields vs) → PSs (X.suite a ((a, oe) :: pn)) (s1 :: ss) (ts a cls d)) (r : HdsAs X hds l) :
      HdsAs X (.ExceptHandler (some (.Name x q1)) (some n) (s1 :: ss) q2 :: hds) ((c, i, ts) :: l)
section
variable {X : Cx} {bd : List Stmt} {hd0 : ExceptHandler} {hds : List ExceptHandler} {l : List Cla} {pos : Pos} {tb : WX → TS} {Wo : WX}
theorem ps_try_mas (stk : X.stack = X.env :: X.outer) (frm : X.env.frame = some X.env.locals) (tkn : Takes X Wo)
    (hbd : ∀ (W : WX) (pn : List (Addr × Obj)) (xe : Value → Shared → Prop), Takes (X.tr pn xe) W → PassesOwn (model X.prog X.w) X.A X.env xe → PSs (X.tr pn xe) bd (tb W))
    (hhs : HdsAs X (hd0 :: hds) l) : PS X (.Try bd (hd0 :: hds) [] [] pos) (fun D σ H => tb (wMas X.K Wo D l) D σ H) := by
  constructor
  intro pins s σ H D I h
  have oki := I.ok
  have frs2 : X.A.frames = some (X.env :: X.outer) := by rw [oki.frames, stk]
  refine wpAny_Try_except ?_
  refine wpAny_mono ((hbd (wMas X.K Wo D l) (X.pn ++ pins) (fun ev t1 => wpAny (model X.prog X.w) X.A (noteFrame ev X.env) (fun _ t2 => wpAny (model X.prog X.w) X.A (setFlight ev none) (fun _ t3 =>
    wpAny (model X.prog X.w) X.A (handleBy ev X.env (hd0 :: hds)) (SP X pins D) X.xe t3) X.xe t2) X.xe t1) (fun u t xx => ?_) PassesOwn.looking).run [] s σ H D (I.toTry _) h) (fun fl t1 hfl => ?_) (fun _ _ z => z)
  · obtain ⟨a, G, tI, pp, σ1, H1, cls, d, rfl, Jt, nbh, upI, sk, na, eos, abr, wsh⟩ := xx
    have J1 : Inv X pins σ1 H1 tI := Jt.ofTry oki
    have sk2 : Sky G (X.env :: X.outer) a (Zc cls d) X.env.locals t.heap := by rw [← stk]; exact sk
    show wpAny (model X.prog X.w) X.A (noteFrame (.ref a) X.env) _ _ _
    refine Sky.land Zc.steady frs2 frm sk2 fun g3 fy3 ut3 => ?_
    have J3 : Inv X pins σ1 H1 { t with heap := g3 } := J1.landed nbh fy3.1 (upI.trans ut3) eos abr
    obtain ⟨ox3, vx3, gx3, zx3, dx3⟩ := fy3.there
    have nofr : a ∉ frs (X.env :: X.outer) := fun hm => by
      obtain ⟨_, o', e', hnf⟩ := fy3.2.2.1.mem hm
      rw [gx3] at e'
      cases e'
      exact hnf _ dx3
    have neL : a ≠ X.env.locals := fun z => nofr (List.mem_filterMap.mpr ⟨X.env, List.mem_cons_self, by rw [frm, z]⟩)
    have neF : a ∉ X.fs := fun hm => by
      obtain ⟨ev, hev, q⟩ := List.mem_filterMap.mp hm
      exact nofr (List.mem_filterMap.mpr ⟨ev, List.mem_cons_of_mem _ hev, q⟩)
    have Sx := J3.suite gx3 dx3 na neL neF
    have run : ∀ {hs' : List ExceptHandler} {l' : List Cla}, HdsAs X hs' l' → wMas X.K Wo D l' cls d σ1 H1 →
        wpAny (model X.prog X.w) X.A (handleBy (.ref a) X.env hs') (SP X pins D) X.xe { t with heap := g3 } := by
      intro hs' l' hk
      induction hk with
      | nil =>
        intro ww
        refine wpAny_handleBy_nil ?_
        obtain ⟨_, _, _, ob, vb, Tb, oTb, tsb, gb, zb, db, b1, _⟩ := id fy3
        unfold PySem.passOn
        refine wpAny_bind (wpAny_field gb db b1 ?_)
        rw [if_neg (by simp)]
        have fin : wpAny (model X.prog X.w) X.A (setFlight (.ref a) X.env.frame) (fun _ t4 => wpAny (model X.prog X.w) X.A (throw (.ref a) : Sem Flow) (SP X pins D) X.xe t4) X.xe { t with heap := g3 } := by
          rw [frm]
          refine HandSPX.setFlight_upZ fy3 fun g4 hg4 ut4 => wpAny_throw (tkn _ _ ?_)
          exact ⟨a, G, tI, pins, σ1, H1, cls, d, rfl, J1, nbh, (upI.trans ut3).trans ut4, .inr (.inr (by rw [stk]; exact hg4)), na, eos, abr, ww⟩
        first
          | exact wpAny_bind (wpAny_pure (wpAny_bind fin))
          | exact wpAny_bind fin
      | @cons x n c i ts s1 ss q1 q2 hds2 l2 hN hi hl hc hsu r ih =>
        intro ww
        obtain ⟨b, hb1, yes, nay⟩ := ww
        refine wpAny_handleBy_cons (codeAny_handlers_test ?_) (by intro q; cases q)
        have LT : PySem.W.Looks (model X.prog X.w) g3 (typeOf (.ref a)) cls := fun _ _ _ _ k q => wpAny_typeOf_ref (k _ _ gx3) (by rw [zx3.1]; exact q)
        have LM := PySem.W.exm_one (M := model X.prog X.w) (J3.kIn) LT hb1
        have tst : ∀ {Q : Value → Shared → Prop} {E : Value → Shared → Prop}, Q c { t with heap := g3 } → wpAny (model X.prog X.w) (X.A.mark (some (.ref a))) (eval (.Name x q1) X.env) Q E { t with heap := g3 } := fun {Q E} q => by
          obtain ⟨hg, hdbg, hm | ⟨hm, hv, hnn⟩⟩ := hc
          · exact ld_glob (X := X.suite a ((a, ox3) :: (X.pn ++ pins))) Sx hg hm q hdbg
          · exact ld_blt (X := X.suite a ((a, ox3) :: (X.pn ++ pins))) Sx hg hm hv q hnn hdbg
        refine tst (LM.here ?_)
        cases b with
        | true =>
          refine codeAny_handlers_suite_as ?_
          refine HandSPX.lands_againZ fy3 fun g4 fy4 ut4 => ?_
          have J4 : Inv X pins σ1 H1 { t with heap := g4 } := J1.landed nbh fy4.1 ((upI.trans ut3).trans ut4) eos abr
          obtain ⟨ox4, vx4, gx4, zx4, dx4⟩ := fy4.there
          have Sy := J4.suite gx4 dx4 na neL neF
          refine store_ok (X := X.suite a ((a, ox4) :: (X.pn ++ pins))) (v := .ref a) Sy hN hi (.inl hl) rfl (fun t5 S5 => ?_) (.inr hl)
          refine wpAny_mono ((hsu a ox4 cls d (X.pn ++ pins) zx4 ⟨_, dx4⟩).run [] t5 _ H1 _ S5 (yes rfl a na)) (fun fl t6 hfl => ?_) (fun _ _ z => False.elim z)
          have gone : ∀ {σ6 : L2.St} {H6 : Hp} {Q : Shared → Prop}, Inv (X.suite a ((a, ox4) :: (X.pn ++ pins))) [] σ6 H6 t6 → (∀ t7, Inv X pins (σ6.set i none) H6 t7 → Q t7) →
              wpAny (model X.prog X.w) X.A (do bindName X.env n .none; unbindBehindTheSuite X.env n q2) (fun _ t7 => Q t7) X.xe t6 := fun {_ _ _} S6 hq => gone_ok (S6.unsuite oki) hN hi hl hq
          cases fl with
          | ret u =>
            obtain ⟨_, _, _, S6, rr, qq⟩ := hfl
            exact gone S6 fun _ J7 => ⟨_, _, _, J7, rr, qq⟩
          | _ =>
            obtain ⟨_, _, S6, qq⟩ := hfl
            exact gone S6 fun _ J7 => ⟨_, _, J7, qq⟩
        | false =>
          show wpAny _ X.A (handleBy (.ref a) X.env hds2) _ _ _
          exact ih (nay rfl)
    exact run hhs wsh
  · cases fl with
    | next =>
      obtain ⟨_, _, Jn, q⟩ := hfl
      exact wpAny_execs_nil ⟨_, _, Jn.ofTry oki, q⟩
    | ret u =>
      obtain ⟨_, _, _, Jn, rr, q⟩ := hfl
      exact ⟨_, _, _, Jn.ofTry oki, rr, q⟩
    | _ =>
      obtain ⟨_, _, Jn, q⟩ := hfl
      exact ⟨_, _, Jn.ofTry oki, q⟩
end
end AT

set_option maxHeartbeats 4000000
namespace AT
open PySem PySem.Spec PyProof.Rows L2
/-! ### defs that are called where no repr is under way -/
structure FnG (P : Program) (w : World) (K : PySem.W.Frag) (mg : Str → Option Value) (base : Heap) (CX : CXT) (k : Nat) (f : Addr) (fd : FuncData) (ps : List Str) (sp : Sp) : Prop where
  len : ∀ vs H Q E, sp vs H Q E → vs.length = ps.length
  run : ∀ (A : Around) (outer : List Env) (s : Shared) (H : Hp) (args : Args) (us : List Value) (vs : List V) (Q : VK) (E : XK), A.guards = some [] → Room k A → Env0 P w K mg base A outer s H → BindsTo s fd args (ps.zip us) → Vals vs us → sp vs H Q E →
    codeAny (model P w) A (.call (.ref f) args) (CR CX outer P w H s Q E) s
theorem okG {P : Program} {w : World} {K : PySem.W.Frag} {mg : Str → Option Value} {base : Heap} {x qual : Str} {params : Arguments} {body : List Stmt} {scope : Scope} {dvs : List V} {kws : List (Str × V)} {f : Addr} {fd : FuncData}
    {CX : CXT} {N ps : List Str} {k : Nat} {sp : Sp} (F : FunD K x qual params body scope dvs kws f fd) (S : FnScope N ps scope) (len : ∀ vs H Q E, sp vs H Q E → vs.length = ps.length)
    (hbody : ∀ (cdv : Value) (A : Around) (outer : List Env) (s : Shared) (H : Hp) (vs : List V) (Q : VK) (E : XK), A.guards = some [] → Room k (A.deeper (envOfC qual scope s.heap.objs.size f cdv)) → sp vs H Q E →
      ∃ t, PSs (cxOf CX P w K mg base N qual scope f cdv A outer s H E) body t ∧ t { nx := fun _ H' => Q .non H', rt := Q } (start N vs) H) : FnG P w K mg base CX (k + 1) f fd ps sp := by
  obtain ⟨oc, od, dV, kV, doc, pm, an, cdv, ct, osl, rfl, lk, hcd, _, _⟩ := F.ex
  refine ⟨len, fun A outer s H args us vs Q E hgd hr e0 hbd rv hsp => ?_⟩
  have KI : K.In s.heap := e0.mod.kin.keeps fun b o z => (e0.bs b o z).1
  have nl : s.heap.NoLimit := e0.mod.nolimit.keeps fun b o z => (e0.bs b o z).1
  have kinds : ∀ y ∈ ps.zip us, scope.names.lookup y.1 = some .local ∨ (scope.names.lookup y.1 = some .cell ∧ ((cellsFrom (s.heap.objs.size + 1) scope.names []).lookup y.1).isSome = true) := by
    rintro ⟨n, v⟩ hy
    exact (S.par n (List.of_mem_zip hy).1).imp id fun q => ⟨q, PySem.W.cellsFrom_some _ _ _ (.inl q)⟩
  refine codeAny_call_function hr.depth (KI _ _ lk) rfl S.co S.gen rfl (PySem.W.codeRec_of KI hcd) (hbd _ _ _ _ ?_)
  refine wpAny_newFunctionEnv_cells S.kind kinds fun env he s1 ic => ?_
  subst he
  refine ⟨nl.keeps ic.toInCall.keep, codeAny_func ?_⟩
  obtain ⟨t, ht, hq⟩ := hbody cdv A outer s H vs Q E hgd (hr.deeper _) hsp
  have I1 := inv_start (CX := CX) (E := E) S hr.hd e0 (len _ _ _ _ hsp) rv ic
  refine wpAny_mono (ht.run [] s1 (start N vs) H _ I1 hq) (fun fl s' hfl => ?_) fun _ _ z => z
  cases fl with
  | ret u =>
    obtain ⟨v, _, H', J, r2, q⟩ := hfl
    exact ⟨v, H', J.os, J.bare, J.base, J.hok, r2, q⟩
  | next =>
    obtain ⟨_, H', J, q⟩ := hfl
    exact ⟨V.non, H', J.os, J.bare, J.base, J.hok, rfl, q⟩
  | _ =>
    obtain ⟨_, _, _, q⟩ := hfl
    exact q.elim
section
variable {X : Cx} {CX : CXT} {k : Nat} {f : Addr} {fd : FuncData} {ps : List Str} {sp : Sp} {dvs : List V} {ds : List Value} {E : XK} {x : Str} {p pos : Pos} {e : Expr} {es : List Expr} {t : TA}
theorem run_g {pins : List (Addr × Obj)} {σ : L2.St} {H : Hp} {s : Shared} {Q : VK} {us : List Value} {vs : List V} (F : FnG X.prog X.w X.K X.mg X.base CX k f fd ps sp) (hgd : X.A.guards = some []) (hr : Room k X.A) (hb : Binds X.K fd ps ds) (hd : Vals dvs ds) (hx : Passes CX X E)
    (I : Inv X pins σ H s) (r : Vals vs us) (h : sp (vs ++ dvs) H Q E) : wpAny (model X.prog X.w) X.A (call (.ref f) us) (EP X pins σ Q) X.xe s := by
  have r2 : Vals (vs ++ dvs) (us ++ ds) := r.append hd
  have hlen : (us ++ ds).length = ps.length := r2.length.symm.trans (F.len _ _ _ _ h)
  refine wpAny_call (codeAny_mono (F.run X.A X.stack s H ⟨us, []⟩ (us ++ ds) (vs ++ dvs) Q E hgd hr I.env0 (hb s us I.kIn hlen) r2 h) fun res s' hq => ?_)
  cases res with
  | error er => exact hx pins σ H s er s' I hq
  | ok fl =>
    cases fl with
    | ret u => exact I.after hq
    | _ => exact False.elim hq
theorem pe_callG (F : FnG X.prog X.w X.K X.mg X.base CX k f fd ps sp) (hgd : X.A.guards = some []) (hr : Room k X.A) (hg : Gl X x) (hm : X.mg x = some (.ref f)) (hk : PySem.W.keepIn X.K (.ref f) = true) (hb : Binds X.K fd ps ds) (hd : Vals dvs ds) (hx : Passes CX X E)
    (ha : PA X (e :: es) t) (hdb : (x == ("__debug__" : Str)) = false := by decide) (hst : starEach (e :: es) X.env = (false, eval e X.env) :: starEach es X.env := by rfl) (hns : (backTo pos (starEach es X.env)).any (·.1) = false := by rfl) :
    PE X (.Call (.Name x p) (e :: es) [] pos) (tCall sp dvs E t) := by
  constructor
  intro pins s σ H Q I h
  refine wpAny_Call_Name_kw (ld_glob I hg hm ?_ hdb)
  refine PySem.W.callWith_K (h₀ := X.base) I.ok.mod.kin hk (thn (ha.run pos pins s σ H _ I h) fun us s1 hh => ?_) hst hns
  obtain ⟨vs, H1, I1, r, q⟩ := hh
  exact ⟨I1.kIn, run_g F hgd hr hb hd hx I1 r q⟩
theorem pe_callG0 (F : FnG X.prog X.w X.K X.mg X.base CX k f fd ps sp) (hgd : X.A.guards = some []) (hr : Room k X.A) (hg : Gl X x) (hm : X.mg x = some (.ref f)) (hk : PySem.W.keepIn X.K (.ref f) = true) (hb : Binds X.K fd ps ds) (hd : Vals dvs ds) (hx : Passes CX X E)
    (hdb : (x == ("__debug__" : Str)) = false := by decide) : PE X (.Call (.Name x p) [] [] pos) (tCall sp dvs E tNil) := by
  constructor
  intro pins s σ H Q I h
  exact wpAny_Call_Name_kw (ld_glob I hg hm (PySem.W.callWith_K0 I.kIn hk (run_g (us := []) F hgd hr hb hd hx I .nil h)) hdb)
end
/-! ### data: what stands under a value; repr -/
mutual
inductive Dd (K : PySem.W.Frag) (H : Hp) : V → PyData → Prop
  | non : Dd K H .non .none
  | bl (b : Bool) : Dd K H (.bl b) (.bool b)
  | int (i : Int) : Dd K H (.int i) (.int i)
  | str (x : Str) : Dd K H (.str x) (.str x)
  | lst {a : Addr} {xs : List V} {ds : List PyData} : SqL K H a xs → DdAll K H xs ds → Dd K H (.ref a) (.list ds)
  | tup {a : Addr} {xs : List V} {ds : List PyData} : SqT K H a xs → DdAll K H xs ds → Dd K H (.ref a) (.tuple ds)
  | emp {a : Addr} : H a = some (.dK []) → Dd K H (.ref a) (.dict [])
inductive DdAll (K : PySem.W.Frag) (H : Hp) : List V → List PyData → Prop
  | nil : DdAll K H [] []
  | cons {v : V} {vs : List V} {d : PyData} {ds : List PyData} : Dd K H v d → DdAll K H vs ds → DdAll K H (v :: vs) (d :: ds)
end
section
variable {X : Cx} {pins : List (Addr × Obj)} {σ : L2.St} {H : Hp} {s : Shared}
theorem sys_free (hK : ∃ o, X.K.lookup sysModules = some o ∧ o.cls = .type "dict") (I : Inv X pins σ H s) : H sysModules = none := by
  obtain ⟨o, ho, _⟩ := hK
  exact (I.bs sysModules o (I.ok.mod.kin _ _ ho)).2
theorem sql_nosys (hK : ∃ o, X.K.lookup sysModules = some o ∧ o.cls = .type "dict") (I : Inv X pins σ H s) {a : Addr} {xs : List V} (h : SqL X.K H a xs) : a ≠ sysModules := by
  intro e
  subst e
  rcases h with (h | ⟨o, h⟩) | ⟨o, its, n, h, hc, _⟩
  · rw [sys_free hK I] at h; cases h
  · rw [sys_free hK I] at h; cases h
  · obtain ⟨o2, h2, hc2⟩ := hK
    rw [h] at h2
    cases h2
    rw [hc] at hc2
    exact absurd (Value.type.inj hc2) (by decide)
theorem plainL_at {h : Heap} {a : Addr} {its : Array Value} (p : PlainL h a its) : ∃ o n, h.get? a = some o ∧ o.cls = .type "list" ∧ o.data = .seq its n :=
  let ⟨o, n, e, c, _, q⟩ := p
  ⟨o, n, e, c, q⟩
mutual
theorem Dd.reads (hK : ∃ o, X.K.lookup sysModules = some o ∧ o.cls = .type "dict") (I : Inv X pins σ H s) : ∀ (d : PyData) (v : V) (u : Value), Dd X.K H v d → RelV v u → ∃ as, Reads s.heap u d as ∧ sysModules ∉ as
  | _, _, _, .non, r => by cases r; exact ⟨[], .none, by simp⟩
  | _, _, _, .bl b, r => by cases r; exact ⟨[], .bool b, by simp⟩
  | _, _, _, .int i, r => by obtain ⟨t, rfl⟩ := r; exact ⟨[], .int i t, by simp⟩
  | _, _, _, .str x, r => by obtain ⟨t, rfl⟩ := r; exact ⟨[], .str x t, by simp⟩
  | _, _, _, .lst hl hd, r => by
    cases r
    have hn := sql_nosys hK I hl
    obtain ⟨its, rv, hpl, _⟩ := I.list hl
    obtain ⟨o, n, ho, hc, hda⟩ := plainL_at hpl
    obtain ⟨as, ra, na⟩ := Dd.readsAll hK I _ _ _ hd rv
    exact ⟨_, .list ho hc hda (by simpa using ra), fun hm => by
      rcases List.mem_cons.mp hm with q | q
      · exact hn q.symm
      · exact na q⟩
  | _, _, _, .tup hl hd, r => by
    cases r
    obtain ⟨its, rv, ⟨o, ho, hc, n, hda⟩, _⟩ := I.tuple hl
    obtain ⟨as, ra, na⟩ := Dd.readsAll hK I _ _ _ hd rv
    exact ⟨_, .tuple ho hc hda (by simpa using ra), na⟩
  | _, _, _, .emp (a := a) he, r => by
    cases r
    obtain ⟨_, hs, vs, kv, o, es, ep, ho, hx, hda, _, hp, _⟩ := I.hok _ _ he
    cases kv
    have he : es.toList = [] := by
      generalize es.toList = l at hp
      cases hp
      rfl
    refine ⟨_, .dict (kvs := []) (as := []) (bs := []) ho hx.1 hda (by rw [he]; exact .nil) (by rw [he]; exact .nil), fun hm => ?_⟩
    rcases List.mem_cons.mp hm with q | q
    · rw [q] at hs
      simp at hs
    · simp at q
theorem Dd.readsAll (hK : ∃ o, X.K.lookup sysModules = some o ∧ o.cls = .type "dict") (I : Inv X pins σ H s) : ∀ (ds : List PyData) (vs : List V) (us : List Value), DdAll X.K H vs ds → Vals vs us → ∃ as, ReadsAll s.heap us ds as ∧ sysModules ∉ as
  | _, _, _, .nil, r => by cases r; exact ⟨[], .nil, by simp⟩
  | _, _, _, .cons hd hr, r => by
    cases r with
    | cons r1 r2 =>
      obtain ⟨as, ra, na⟩ := Dd.reads hK I _ _ _ hd r1
      obtain ⟨bs, rb, nb⟩ := Dd.readsAll hK I _ _ _ hr r2
      exact ⟨_, .cons ra rb, fun hm => (List.mem_append.mp hm).elim na nb⟩
end
/-- repr(x) of data -/
def rRepr (K : PySem.W.Frag) : List V → Hp → VK → Prop := fun xs H Q => ∃ (x : V) (d : PyData), xs = [x] ∧ Dd K H x d ∧ d.showable = true ∧ d.depth ≤ 50 ∧ d.shown.length ≤ sizeLine ∧ Q (.str d.shown) H
theorem call_repr {k : Nat} (hgd : X.A.guards = some []) (hr : Room k X.A) (hK : ∃ o, X.K.lookup sysModules = some o ∧ o.cls = .type "dict") : CallR X (.builtin "repr") (rRepr X.K) := by
  intro pins s σ H xs us Q I r h
  obtain ⟨x, d, rfl, hd, hsh, hdp, hsz, q⟩ := h
  obtain ⟨u, rfl, ru⟩ := vals1 r
  obtain ⟨as, hR, hns⟩ := hd.reads hK I _ _ u ru
  have hun := hr.units
  cases hR with
  | none => exact PySem.P.repr_of_none ⟨.str _, H, I.tok _, ⟨_, rfl⟩, q⟩
  | bool b => exact PySem.P.repr_of_bool ⟨.str _, H, I.tok _, ⟨_, rfl⟩, q⟩
  | int i t => exact PySem.P.repr_of_int (of_decide_eq_true hsh) ⟨.str _, H, I.tok _, ⟨_, rfl⟩, q⟩
  | str y t => exact PySem.P.repr_of_str ⟨.str _, H, I.tok _, ⟨_, rfl⟩, q⟩ hsz
  | list h1 h2 h3 h4 =>
    exact repr_of_reads' (.list h1 h2 h3 h4) hsh (fun _ => hns) hgd (by omega) (fun _ _ z => z) (fun h' u' tk kp => ⟨.str _, H, I.kept kp, ⟨_, rfl⟩, q⟩) hsz
  | tuple h1 h2 h3 h4 =>
    exact repr_of_reads' (.tuple h1 h2 h3 h4) hsh (fun _ => hns) hgd (by omega) (fun _ _ z => z) (fun h' u' tk kp => ⟨.str _, H, I.kept kp, ⟨_, rfl⟩, q⟩) hsz
  | dict h1 h2 h3 h4 h5 =>
    exact repr_of_reads' (.dict h1 h2 h3 h4 h5) hsh (fun _ => hns) hgd (by omega) (fun _ _ z => z) (fun h' u' tk kp => ⟨.str _, H, I.kept kp, ⟨_, rfl⟩, q⟩) hsz
end
end AT

set_option maxHeartbeats 4000000
namespace AT
open PySem PySem.Spec PyProof.Rows L2
/-- the law's call, from its def's promise -/
theorem lawG {P : Program} {w : World} {K : PySem.W.Frag} {mg mb : Str → Option Value} {CX : CXT} {k : Nat} {fa a : Addr} {fd : FuncData} {x : Str} {sp : Sp} {st : Shared} {vs : List Value} {ns : List Int}
    (KI : K.In st.heap) (hG : st.heap.Ns mainGlobals mg) (hB : st.heap.Ns builtinsNs mb) (hBb : ∀ x : Str, x ≠ "__name__" → mb x = bootBuiltins x) (hNl : st.heap.NoLimit) (hgs : st.gens = #[])
    (hob : st.heap.get? a = some { cls := .type "list", data := .seq vs.toArray }) (hin : IntsAre vs ns) (hsz : ns.length ≤ sizeLine) (hr : Room k callerA)
    (F : ∀ base : Heap, K.In base → base.Ns mainGlobals mg → FnG P w K mg base CX k fa fd [x] sp) (hbd : ∀ (s : Shared) (u : Value), BindsTo s fd ⟨[u], []⟩ [(x, u)])
    (hsp : ∀ H : Hp, Only H → SqL K H a (ns.map V.int) → sp [.ref a] H (fun v _ => v = .bl true) fun _ _ _ => False)
    (hno : ∀ H e s', CX [] H st (fun _ _ _ => False) e s' → False) :
    codeAny (model P w) callerA (.call (.ref fa) ⟨[.ref a], []⟩) (fun r s' => r = .ok (.ret (.bool true)) ∧ OldK st.heap s'.heap ∧ s'.os = st.os ∧ AllBare s'.gens) st := by
  have rv := vals_ints hin
  have main : ∀ H : Hp, Only H → SqL K H a (ns.map V.int) → HOk P w H st.heap → (∀ b, H b ≠ none → b = a) → (H a ≠ none → K.lookup a = none) →
      codeAny (model P w) callerA (.call (.ref fa) ⟨[.ref a], []⟩) (fun r s' => r = .ok (.ret (.bool true)) ∧ OldK st.heap s'.heap ∧ s'.os = st.os ∧ AllBare s'.gens) st := by
    intro H hO hS hok hA hKa
    have free : ∀ {b : Addr} {o : Obj} {es : Array DictEntry} {ep : Nat}, st.heap.get? b = some o → o.data = .dict es ep → H b = none := by
      intro b o es ep e d
      cases q : H b with
      | none => rfl
      | some u =>
        obtain rfl : b = a := hA b (by rw [q]; exact Option.some_ne_none u)
        rw [hob] at e
        cases e
        cases d
    have nsH : ∀ {b : Addr} {m : Str → Option Value}, st.heap.Ns b m → (hidT st.heap H).Ns b m := by
      rintro b m ⟨o, es, ep, e, d, rr⟩
      exact ⟨o, es, ep, hidT_get e (free e d), d, rr⟩
    have KH : K.In (hidT st.heap H) := by
      intro b o e
      refine hidT_get (KI b o e) ?_
      cases q : H b with
      | none => rfl
      | some u =>
        obtain rfl : b = a := hA b (by rw [q]; exact Option.some_ne_none u)
        rw [hKa (by rw [q]; exact Option.some_ne_none u)] at e
        cases e
    have hM : Mod K mg (hidT st.heap H) := by
      obtain ⟨mc, h1, h2⟩ := hNl
      exact ⟨KH, nsH hG, ⟨mb, nsH hB, hBb⟩, ⟨mc, nsH h1, h2⟩⟩
    have e0 : Env0 P w K mg (hidT st.heap H) callerA [] st H :=
      { frames := rfl, mod := hM, bs := fun b o e => of_hidT e, bsz := Nat.le_of_eq (hidT_size _ _), funs := trivial, frf := (by intro b hb; exact absurd hb (by simp [frs])), hok := hok, bare := .of_eq hgs }
    refine codeAny_mono ((F _ KH (nsH hG)).run callerA [] st H ⟨[.ref a], []⟩ [.ref a] [.ref a] _ _ rfl hr e0 (hbd st (.ref a)) (.cons rfl .nil) (hsp H hO hS)) fun r s' h => ?_
    cases r with
    | error e => exact (hno H e s' h).elim
    | ok fl =>
      cases fl with
      | ret u =>
        obtain ⟨v, H', eos, br, un, hok', r', q⟩ := h
        obtain rfl : v = .bl true := q
        obtain rfl : u = Value.bool true := r'
        refine ⟨rfl, OldK.of_keep fun b o e => ?_, eos, br⟩
        cases q : H b with
        | none => exact un.keep b o e q (by simp [frs]) (by simp)
        | some u =>
          rcases hO b with z | ⟨ob, xs, z⟩
          · rw [q] at z
            cases z
          · have y2 := (hok' b _ (un.frzs b ob _ z)).1
            have y1 := (hok b _ z).1
            rw [e] at y1
            cases y1
            exact y2
      | _ => exact False.elim h
  cases hk : K.lookup a with
  | some o =>
    have e := KI a o hk
    rw [hob] at e
    cases e
    refine main (fun _ => none) (fun _ => .inl rfl) (.inr ⟨_, vs.toArray, _, hk, rfl, rfl, rfl, ?_, by simpa using rv⟩) ?_ (fun b z => absurd rfl z) fun z => absurd rfl z
    · rw [List.size_toArray, hin.length]
      exact hsz
    · intro b u z
      exact nomatch (show (none : Option HO) = some u from z)
  | none =>
    let o1 : Obj := { cls := .type "list", data := .seq vs.toArray }
    refine main (fun b => if b = a then some (.frz o1 (.lst (ns.map V.int))) else none) (fun b => ?_) (.inl (.inr ⟨o1, if_pos rfl⟩)) (fun b u z => ?_) (fun b z => ?_) fun _ => hk
    · by_cases hb : b = a
      · exact .inr ⟨_, _, if_pos hb⟩
      · exact .inl (if_neg hb)
    · by_cases hb : b = a
      · have y := (if_pos hb).symm.trans z
        cases y
        subst hb
        exact ⟨hob, by rw [List.length_map]; exact hsz, vs, _, rv, hob⟩
      · have y := (if_neg hb).symm.trans z
        cases y
    · by_cases hb : b = a
      · exact hb
      · exact absurd (if_neg hb) z
theorem walkG {l : PySem.W.OpenLaw} {n k : Nat} {q : Program} {loose : List Str} {XP : (Str → Option Value) → Heap → Prop} {YP : World → Heap → Prop} {d : DefRec} {CX : World → CXT} {x : Str}
    (hn : l.most = some n) (hn2 : n ≤ sizeLine) (hdf : d.params.defaults = []) (hr : Room k callerA)
    (F : ∀ (w : World) (mg : Str → Option Value) (fa : Addr) (h : Heap), YP w h → h.Ns mainGlobals mg → mg d.name = some (.ref fa) →
      ∃ (K : PySem.W.Frag) (fd : FuncData) (sp : Sp), K.In h ∧ (∀ (s : Shared) (u : Value), BindsTo s fd ⟨[u], []⟩ [(x, u)]) ∧
        (∀ (H : Hp) (a : Addr) (ns : List Int), ns.length ≤ n → Only H → SqL K H a (ns.map V.int) → sp [.ref a] H (fun v _ => v = .bl true) fun _ _ _ => False) ∧
        ∀ base : Heap, K.In base → base.Ns mainGlobals mg → FnG l.prog w K mg base (CX w) k fa fd [x] sp)
    (hno : ∀ (w : World) (H : Hp) (s : Shared) (e : Value) (s' : Shared), CX w [] H s (fun _ _ _ => False) e s' → False) :
    PySem.W.WalkO q loose XP YP l.row.toRowW d [] (fun f vs => PySem.call f vs) := by
  refine Att.attach_call hn hdf fun w _ st mg mb fa o pm cd doc a vs ns G Y _ _ _ hmg hob hin hlen hgs => ?_
  obtain ⟨K, fd, sp, KI, hbd, hsp, hF⟩ := F w mg fa _ Y G.T.g hmg
  exact lawG KI G.T.g G.T.b G.T.builtins G.T.nolimit hgs hob hin (Nat.le_trans hlen hn2) hr hF hbd (fun H hO hS => hsp H a ns hlen hO hS) fun H e s' => hno w H st e s'
theorem cx_false {P : Program} {w : World} {outer : List Env} {H : Hp} {s : Shared} {e : Value} {s' : Shared} (h : L2.CX P w outer H s (fun _ _ _ => False) e s') : False := by
  obtain ⟨_, _, _, _, _, _, _, _, _, _, _, _, z⟩ := h
  exact z
end AT

set_option maxHeartbeats 4000000
namespace AT
open PySem PySem.Spec PyProof.Rows L2
/-- a def that keeps a promise, and how it is called with all its parameters -/
def Ok (P : Program) (w : World) (K : PySem.W.Frag) (mg : Str → Option Value) (base : Heap) (k : Nat) (f : Addr) (ps : List Str) (sp : Sp) : Prop :=
  ∃ fd, FnOk P w K mg base (L2.CX P w) k f fd ps sp ∧ Binds K fd ps [] ∧ PySem.W.keepIn K (.ref f) = true
/-- .. with its last parameters left to their defaults dvs -/
def OkD (P : Program) (w : World) (K : PySem.W.Frag) (mg : Str → Option Value) (base : Heap) (k : Nat) (f : Addr) (ps : List Str) (dvs : List V) (sp : Sp) : Prop :=
  ∃ fd ds, FnOk P w K mg base (L2.CX P w) k f fd ps sp ∧ Vals dvs ds ∧ Binds K fd ps ds ∧ PySem.W.keepIn K (.ref f) = true
/-- .. where no repr is under way -/
def OkG (P : Program) (w : World) (K : PySem.W.Frag) (mg : Str → Option Value) (base : Heap) (k : Nat) (f : Addr) (ps : List Str) (sp : Sp) : Prop :=
  ∃ fd, FnG P w K mg base (L2.CX P w) k f fd ps sp ∧ Binds K fd ps [] ∧ PySem.W.keepIn K (.ref f) = true
section
variable {X : Cx} {k : Nat} {f C : Addr} {ps : List Str} {sp : Sp} {dvs : List V} {E : XK} {x m : Str} {p pos apos : Pos} {e o : Expr} {es : List Expr} {ta : TE} {t : TA}
theorem ok_call (F : Ok X.prog X.w X.K X.mg X.base k f ps sp) (hr : Room k X.A) (hg : Gl X x) (hm : X.mg x = some (.ref f)) (hx : Passes (L2.CX X.prog X.w) X E) (ha : PA X (e :: es) t)
    (hdb : (x == ("__debug__" : Str)) = false := by decide) (hst : starEach (e :: es) X.env = (false, eval e X.env) :: starEach es X.env := by rfl) (hns : (backTo pos (starEach es X.env)).any (·.1) = false := by rfl) :
    PE X (.Call (.Name x p) (e :: es) [] pos) (tCall sp [] E t) := by
  obtain ⟨fd, F1, b, kp⟩ := F
  exact pe_call F1 hr hg hm kp b .nil hx ha hdb hst hns
theorem ok_call0 (F : Ok X.prog X.w X.K X.mg X.base k f [] sp) (hr : Room k X.A) (hg : Gl X x) (hm : X.mg x = some (.ref f)) (hx : Passes (L2.CX X.prog X.w) X E)
    (hdb : (x == ("__debug__" : Str)) = false := by decide) : PE X (.Call (.Name x p) [] [] pos) (tCall sp [] E tNil) := by
  obtain ⟨fd, F1, b, kp⟩ := F
  exact pe_call0 F1 hr hg hm kp b .nil hx hdb
theorem ok_callG (F : OkG X.prog X.w X.K X.mg X.base k f ps sp) (hgd : X.A.guards = some []) (hr : Room k X.A) (hg : Gl X x) (hm : X.mg x = some (.ref f)) (hx : Passes (L2.CX X.prog X.w) X E) (ha : PA X (e :: es) t)
    (hdb : (x == ("__debug__" : Str)) = false := by decide) (hst : starEach (e :: es) X.env = (false, eval e X.env) :: starEach es X.env := by rfl) (hns : (backTo pos (starEach es X.env)).any (·.1) = false := by rfl) :
    PE X (.Call (.Name x p) (e :: es) [] pos) (tCall sp [] E t) := by
  obtain ⟨fd, F1, b, kp⟩ := F
  exact pe_callG F1 hgd hr hg hm kp b .nil hx ha hdb hst hns
theorem ok_callG0 (F : OkG X.prog X.w X.K X.mg X.base k f [] sp) (hgd : X.A.guards = some []) (hr : Room k X.A) (hg : Gl X x) (hm : X.mg x = some (.ref f)) (hx : Passes (L2.CX X.prog X.w) X E)
    (hdb : (x == ("__debug__" : Str)) = false := by decide) : PE X (.Call (.Name x p) [] [] pos) (tCall sp [] E tNil) := by
  obtain ⟨fd, F1, b, kp⟩ := F
  exact pe_callG0 F1 hgd hr hg hm kp b .nil hx hdb
/-- in a try's body -/
theorem ok_callS {W : WX} (F : Ok X.prog X.w X.K X.mg X.base k f ps sp) (hr : Room k X.A) (hg : Gl X x) (hm : X.mg x = some (.ref f)) (tk : Takes X W) (ha : PA X (e :: es) t)
    (hdb : (x == ("__debug__" : Str)) = false := by decide) (hst : starEach (e :: es) X.env = (false, eval e X.env) :: starEach es X.env := by rfl) (hns : (backTo pos (starEach es X.env)).any (·.1) = false := by rfl) :
    PE X (.Call (.Name x p) (e :: es) [] pos) (tCallSD sp [] (fun σ cls d H => W cls d σ H) t) := by
  obtain ⟨fd, F1, b, kp⟩ := F
  exact pe_callSD F1 hr hg hm kp b .nil (fun σ => passAt tk σ) ha hdb hst hns
/-- C(e, ..) -/
theorem ok_make (M : Mk X.K C f) (F : Ok X.prog X.w X.K X.mg X.base k f ps sp) (hr : Room (k + 1) X.A) (hg : Gl X x) (hm : X.mg x = some (.ref C)) (hx : Passes (L2.CX X.prog X.w) X E) (ha : PA X (e :: es) t)
    (hdb : (x == ("__debug__" : Str)) = false := by decide) (hst : starEach (e :: es) X.env = (false, eval e X.env) :: starEach es X.env := by rfl) (hns : (backTo pos (starEach es X.env)).any (·.1) = false := by rfl) :
    PE X (.Call (.Name x p) (e :: es) [] pos) (tMake C sp [] E t) := by
  obtain ⟨fd, F1, b, kp⟩ := F
  exact pe_make M F1 hr hg hm b .nil hx ha hdb hst hns
theorem ok_makeD (M : Mk X.K C f) (F : OkD X.prog X.w X.K X.mg X.base k f ps dvs sp) (hr : Room (k + 1) X.A) (hg : Gl X x) (hm : X.mg x = some (.ref C)) (hx : Passes (L2.CX X.prog X.w) X E) (ha : PA X (e :: es) t)
    (hdb : (x == ("__debug__" : Str)) = false := by decide) (hst : starEach (e :: es) X.env = (false, eval e X.env) :: starEach es X.env := by rfl) (hns : (backTo pos (starEach es X.env)).any (·.1) = false := by rfl) :
    PE X (.Call (.Name x p) (e :: es) [] pos) (tMake C sp dvs E t) := by
  obtain ⟨fd, ds, F1, vd, b, kp⟩ := F
  exact pe_make M F1 hr hg hm b vd hx ha hdb hst hns
/-- o.f, a property -/
theorem ok_prop {g : Addr} (c : Cls X.K C) (hp : ∃ q, PropOf X.K C m q g) (F : Ok X.prog X.w X.K X.mg X.base k g [("self" : Str)] sp) (hr : Room (k + 1) X.A) (he : PE X e ta)
    (hab : attributeBase e m X.env (eval e X.env) = eval e X.env := by rfl) : PE X (.Attribute e m pos) (tProp C sp [] E0 ta) := by
  obtain ⟨q, hq⟩ := hp
  obtain ⟨fd, F1, b, kp⟩ := F
  exact pe_prop he c hq F1 hr b .nil passL hab
end
/-- all that the body's proof gives: a def's promise -/
theorem mk_ok {P : Program} {w : World} {K : PySem.W.Frag} {mg : Str → Option Value} {base : Heap} {x qual : Str} {st : Stmt} {kws : List (Str × V)} {f : Addr} {N ps : List Str} {k : Nat} {sp : Sp}
    (F : ∃ fd, FunD K x qual (defArgs st) (defBody st) (defScope st) [] kws f fd) (S : FnScope N ps (defScope st))
    (hb : ∀ (kV doc pm : Value) (an : Option Addr) (cdv ct : Value) (us : List Value), us.length = ps.length → bindArgs (PySem.W.fnOf x qual (defArgs st) (defBody st) (defScope st) .none kV doc pm an cdv ct) ⟨us, []⟩ = pure (ps.zip us))
    (len : ∀ vs H Q E, sp vs H Q E → vs.length = ps.length)
    (body : ∀ (cdv : Value) (A : Around) (outer : List Env) (s : Shared) (H : Hp) (vs : List V) (Q : VK) (E : XK), Room k (A.deeper (envOfC qual (defScope st) s.heap.objs.size f cdv)) → sp vs H Q E →
      ∃ t, PSs (cxOf (L2.CX P w) P w K mg base N qual (defScope st) f cdv A outer s H E) (defBody st) t ∧ t { nx := fun _ H' => Q .non H', rt := Q } (start N vs) H) : Ok P w K mg base (k + 1) f ps sp := by
  obtain ⟨fd, F⟩ := F
  exact ⟨fd, F.ok S len body, F.bindsN hb, F.kp⟩
theorem mk_okG {P : Program} {w : World} {K : PySem.W.Frag} {mg : Str → Option Value} {base : Heap} {x qual : Str} {st : Stmt} {kws : List (Str × V)} {f : Addr} {N ps : List Str} {k : Nat} {sp : Sp}
    (F : ∃ fd, FunD K x qual (defArgs st) (defBody st) (defScope st) [] kws f fd) (S : FnScope N ps (defScope st))
    (hb : ∀ (kV doc pm : Value) (an : Option Addr) (cdv ct : Value) (us : List Value), us.length = ps.length → bindArgs (PySem.W.fnOf x qual (defArgs st) (defBody st) (defScope st) .none kV doc pm an cdv ct) ⟨us, []⟩ = pure (ps.zip us))
    (len : ∀ vs H Q E, sp vs H Q E → vs.length = ps.length)
    (body : ∀ (cdv : Value) (A : Around) (outer : List Env) (s : Shared) (H : Hp) (vs : List V) (Q : VK) (E : XK), (A.deeper (envOfC qual (defScope st) s.heap.objs.size f cdv)).guards = some [] → Room k (A.deeper (envOfC qual (defScope st) s.heap.objs.size f cdv)) → sp vs H Q E →
      ∃ t, PSs (cxOf (L2.CX P w) P w K mg base N qual (defScope st) f cdv A outer s H E) (defBody st) t ∧ t { nx := fun _ H' => Q .non H', rt := Q } (start N vs) H) : OkG P w K mg base (k + 1) f ps sp := by
  obtain ⟨fd, F⟩ := F
  exact ⟨fd, okG F S len (fun cdv A outer s H vs Q E hg => body cdv A outer s H vs Q E hg), F.bindsN hb, F.kp⟩
theorem Ok.mono {P : Program} {w : World} {K : PySem.W.Frag} {mg : Str → Option Value} {base : Heap} {j k : Nat} {f : Addr} {ps : List Str} {sp : Sp} (F : Ok P w K mg base j f ps sp) (h : j ≤ k) : Ok P w K mg base k f ps sp := by
  obtain ⟨fd, F1, b, kp⟩ := F
  exact ⟨fd, F1.mono h, b, kp⟩
theorem Ok.imp {P : Program} {w : World} {K : PySem.W.Frag} {mg : Str → Option Value} {base : Heap} {k : Nat} {f : Addr} {ps : List Str} {sp sp' : Sp} (F : Ok P w K mg base k f ps sp) (h : ∀ vs H Q E, sp' vs H Q E → sp vs H Q E) : Ok P w K mg base k f ps sp' := by
  obtain ⟨fd, F1, b, kp⟩ := F
  exact ⟨fd, F1.imp h, b, kp⟩
/-- an exception's class, made anywhere -/
theorem mk_X {X : Cx} {x f : Str} {k : Nat} (T : Xc X.K x f) (hm : X.mg x = some (.ref (He.ga X.K x))) (F : Ok X.prog X.w X.K X.mg X.base k (He.ma X.K (He.ga X.K x) "__init__") [("self" : Str), f] (spXi X.K (He.ga X.K x) f)) (hr : Room (k + 1) X.A) (hdb : (x == ("__debug__" : Str)) = false := by decide) : MkX X x f := by
  obtain ⟨fd, F1, b, kp⟩ := F
  exact mkX_of T hm F1 b hr hdb
/-- what a callee lets out leaves the def -/
theorem passE {X : Cx} {E : XK} {E1 : Value → Shared → Prop} (hs : X.stack = X.env :: X.outer) (hf : X.env.frame = some X.env.locals) (hex : X.ex = []) (hx : X.xe = fun e s' => wpAny (model X.prog X.w) X.A (leaving X.env e) (fun _ s'' => L2.CX X.prog X.w X.outer X.H_0 X.s_0 E e s'') E1 s') : Passes (L2.CX X.prog X.w) X E :=
  passes_call (takes_of hs hf hex hx) (fun _ _ _ _ z => z)
end AT
namespace AT
open PySem PySem.Spec PyProof.Rows L2
theorem pe_k {X : Cx} {x : Str} {v : V} {pos : Pos} (h : ∃ u, X.mg x = some u ∧ RelV v u) (hg : Gl X x := by rfl) (hd : (x == ("__debug__" : Str)) = false := by decide) : PE X (.Name x pos) (tC v) := by
  obtain ⟨u, hu, r⟩ := h
  exact pe_glob hg hu r hd
/-- // by a divisor of any sign, not 0, below 2 ^ 9000 -/
def CDivZ (_ j : Int) : Prop := j ≠ 0 ∧ j.natAbs.log2 < 9000
theorem op_fdivZ {X : Cx} : OpR X (binaryOp .FloorDiv) (rI CDivZ fun i j => .int (i.fdiv j)) := opI fun _ _ _ _ _ _ _ hc q => floordiv_int hc.1 q (.inl (PyProof.noPylong_of_log2 hc.2))
end AT
namespace AT
open PySem PySem.Spec PyProof.Rows L2
theorem pe_gr {X : Cx} {x : Str} {a : Addr} {pos : Pos} (h : X.mg x = some (.ref a)) (hg : Gl X x := by rfl) (hd : (x == ("__debug__" : Str)) = false := by decide) : PE X (.Name x pos) (tC (.ref a)) := pe_glob hg h rfl hd
end AT
namespace AT
open PySem PySem.Spec PyProof.Rows L2
/-- a def with one default v: called with it left out, and with all given -/
theorem mk_okD1 {P : Program} {w : World} {K : PySem.W.Frag} {mg : Str → Option Value} {base : Heap} {x qual : Str} {st : Stmt} {kws : List (Str × V)} {v : V} {f : Addr} {N ps : List Str} {k n : Nat} {sp : Sp}
    (F : ∃ fd, FunD K x qual (defArgs st) (defBody st) (defScope st) [v] kws f fd) (S : FnScope N ps (defScope st)) (hn : n + 1 = ps.length)
    (hb : ∀ (T : Addr) (kV doc pm : Value) (an : Option Addr) (cdv ct : Value) (us : List Value) (u : Value), us.length = n → ∃ k, bindArgs (PySem.W.fnOf x qual (defArgs st) (defBody st) (defScope st) (.ref T) kV doc pm an cdv ct) ⟨us, []⟩ = seqItems? (.ref T) >>= k ∧ k (some #[u]) = pure (ps.zip (us ++ [u])))
    (hb2 : ∀ (T : Addr) (kV doc pm : Value) (an : Option Addr) (cdv ct : Value) (us : List Value) (u : Value), us.length = n + 1 → ∃ k, bindArgs (PySem.W.fnOf x qual (defArgs st) (defBody st) (defScope st) (.ref T) kV doc pm an cdv ct) ⟨us, []⟩ = seqItems? (.ref T) >>= k ∧ k (some #[u]) = pure (ps.zip us))
    (len : ∀ vs H Q E, sp vs H Q E → vs.length = ps.length)
    (body : ∀ (cdv : Value) (A : Around) (outer : List Env) (s : Shared) (H : Hp) (vs : List V) (Q : VK) (E : XK), Room k (A.deeper (envOfC qual (defScope st) s.heap.objs.size f cdv)) → sp vs H Q E →
      ∃ t, PSs (cxOf (L2.CX P w) P w K mg base N qual (defScope st) f cdv A outer s H E) (defBody st) t ∧ t { nx := fun _ H' => Q .non H', rt := Q } (start N vs) H) :
    Ok P w K mg base (k + 1) f ps sp ∧ OkD P w K mg base (k + 1) f ps [v] sp := by
  obtain ⟨fd, F⟩ := F
  have one : ∀ its : List Value, its.length = 1 → ∃ u, its = [u] := fun its h => List.length_eq_one_iff.mp h
  constructor
  · obtain ⟨ds, vd, b⟩ := F.binds1 (ps := ps) (n + 1) 1 (by simp) (by simpa using hn) (fun T kV doc pm an cdv ct us its h1 h2 => by
      obtain ⟨u, rfl⟩ := one its h2
      obtain ⟨k, e1, e2⟩ := hb2 T kV doc pm an cdv ct us u h1
      exact ⟨k, e1, by simpa using e2⟩)
    cases vd
    exact ⟨fd, F.ok S len body, b, F.kp⟩
  · obtain ⟨ds, vd, b⟩ := F.binds1 (ps := ps) n 0 (by simp) (by simpa using hn) (fun T kV doc pm an cdv ct us its h1 h2 => by
      obtain ⟨u, rfl⟩ := one its h2
      obtain ⟨k, e1, e2⟩ := hb T kV doc pm an cdv ct us u h1
      exact ⟨k, e1, by simpa using e2⟩)
    exact ⟨fd, ds, F.ok S len body, vd, b, F.kp⟩
end AT

set_option maxHeartbeats 4000000
namespace AT
open PySem PySem.Spec PyProof.Rows L2
theorem Same.new {H H' : Hp} {p : Addr} {o : HO} (s : Same H H') (hp : H p = none) : Same H (upd H' p o) := fun b u e => by
  rw [upd_ne (ne_of_none e hp)]
  exact s b u e
theorem Same.up {H : Hp} {p : Addr} {o : HO} (hp : H p = none) : Same H (upd H p o) := Same.new (Same.refl H) hp
theorem Same.tup {K : PySem.W.Frag} {H H' : Hp} {a : Addr} {xs : List V} (e : Same H H') (h : SqT K H a xs) : SqT K H' a xs := by
  rcases h with (h | ⟨o, h⟩) | h
  · exact .inl (.inl (e _ _ h))
  · exact .inl (.inr ⟨o, e _ _ h⟩)
  · exact .inr h
/-- the part of a list that is through, filtered and mapped -/
theorem take_step {α β : Type} {l : List α} {i : Nat} {x : α} (p : α → Bool) (f : α → β) (h : l[i]? = some x) :
    ((l.take (i + 1)).filter p).map f = ((l.take i).filter p).map f ++ (if p x then [f x] else []) := by
  rw [List.take_add_one, h, Option.toList_some, List.filter_append, List.map_append]
  congr 1
  cases hp : p x <;> simp [List.filter, hp]
/-- a comprehension over a text whose element and test only make new objects; the target a name in slot j -/
theorem lc_text {z : Str} {tt : TT} {te : TE} {j : Nat} {vs : List Nat} {σ : L2.St} {H1 : Hp} {D : Addr} {Qd : Hp → Prop} (p : Nat → Bool) (f : Nat → V) (hz : z.cps.size < sizeLine) (hD : H1 D = none)
    (hw : ∀ x, wipe ((wipe σ vs).set j (some x)) vs = wipe σ vs)
    (ht : ∀ (c : Nat) (H : Hp) (R : Bool → Hp → Prop), c ∈ z.cps.toList → Same H1 H → (∀ H', Same H H' → R (p c) H') → tt ((wipe σ vs).set j (some (.str ⟨#[c]⟩))) H R)
    (he : ∀ (c : Nat) (H : Hp) (R : VK), c ∈ z.cps.toList → Same H1 H → (∀ H', Same H H' → R (f c) H') → te ((wipe σ vs).set j (some (.str ⟨#[c]⟩))) H R)
    (hd : ∀ H, Same H1 H → H D = some (.lst ((z.cps.toList.filter p).map f)) → Qd H) :
    ∃ W : Nat → Nat → Hp → Prop, (∃ m, W 0 m (upd H1 D (.lst []))) ∧ ∀ i m H, W i m H →
      ((Its z).stop i H ∧ Qd H) ∨ ((Its z).go i H ∧ ∃ Nx : Hp → Prop, (∀ H', Nx H' → ∃ m', m' < m ∧ W (i + 1) m' H') ∧ ∀ x H', (Its z).yld i H x H' → gName j x (wipe σ vs) H' fun σ2 H2 => wipe σ2 vs = wipe σ vs ∧ tt σ2 H2 fun b H3 =>
        if b = true then te σ2 H3 fun y H4 => ∃ acc, H4 D = some (.lst acc) ∧ acc.length < sizeLine ∧ Nx (upd H4 D (.lst (acc ++ [y]))) else Nx H3) := by
  refine lc_it walk_str (fun i H => Same H1 H ∧ H D = some (.lst (((z.cps.toList.take i).filter p).map f))) ⟨Same.up hD, by rw [upd_same]; rfl⟩ (fun _ _ _ _ => trivial) (fun i x H H' hi hP hY => ?_) (fun H hP => ?_)
  · obtain ⟨sm, hl⟩ := hP
    obtain ⟨rfl, c, hc, rfl⟩ := hY
    have hc' : z.cps.toList[i]? = some c := by rw [Array.getElem?_toList]; exact hc
    have hm : c ∈ z.cps.toList := List.mem_of_getElem? hc'
    have hst := take_step p f hc'
    refine ⟨hw _, ht c H' _ hm sm fun H2 s2 => ?_⟩
    cases hp : p c with
    | false =>
      refine iteF ⟨sm.trans s2, ?_⟩
      rw [hst, hp]
      simpa using s2 _ _ hl
    | true =>
      refine iteT (he c H2 _ hm (sm.trans s2) fun H3 s3 => ⟨_, s3 _ _ (s2 _ _ hl), ?_, ?_, ?_⟩)
      · have h1 : (((z.cps.toList.take i).filter p).map f).length ≤ z.cps.toList.length := by
          rw [List.length_map]
          exact Nat.le_trans (List.length_filter_le _ _) (by rw [List.length_take]; exact Nat.min_le_right _ _)
        have h2 : z.cps.toList.length = z.cps.size := Array.length_toList
        omega
      · exact AT.Same.new ((sm.trans s2).trans s3) hD
      · rw [upd_same, hst, hp]
        rfl
  · obtain ⟨sm, hl⟩ := hP
    have e : z.cps.toList.take z.cps.size = z.cps.toList := by
      rw [← Array.length_toList, List.take_length]
    rw [e] at hl
    exact hd H sm hl
end AT

set_option maxHeartbeats 4000000
namespace AT
open PySem PySem.Spec PyProof.Rows L2
open AutoSeq1 (wpAny_loadPart')
theorem str_declines (z : Str) (u : Tok) (l : Addr) (o : Obj) (es : Array DictEntry) (n : Nat) :
    Meets (Builtin.«str.__eq__» ⟨[.str z u, .ref l], []⟩) (fun _ R s => s.heap.get? l = some o ∧ o.data = .dict es n ∧ R (.ok (.ret .notImplemented)) s) :=
  .of_wp fun prog w A R s h => by
    obtain ⟨hp, g, d, tk, os⟩ := s
    obtain ⟨hl, hc, h⟩ := h
    wp_walk using wpAny_loadPart' hl, wpAny_load hl
    rw [hc]
    wp_walk
    exact ⟨_, rfl, h⟩
section
variable {prog : Program} {w : World} {A : Around} {E : Value → Shared → Prop} {s : Shared}
theorem dict_declines {a : Addr} {z : Str} {u : Tok} {Q : Value → Shared → Prop} (ha : s.TypeIs (.ref a) "dict") (q : Q .notImplemented s) : wpAny (model prog w) A (call (.builtin "dict.__eq__") [.ref a, .str z u]) Q E s := by
  refine wpAny_call_entry PySem.F.slot_dict_eq ha PySem.F.entry_dict_eq ?_ (PySem.F.args_dict_eq_2 _ _)
  show wpAny _ _ (Builtin.Dict.dictSlotArgs "__eq__" ⟨[.ref a, .str z u], []⟩ >>= _) _ _ s
  refine wpAny_bind ?_
  unfold Builtin.Dict.dictSlotArgs
  refine wpAny_bind (wpAny_notOrdered_dict ha ?_)
  show wpAny _ _ (pure (Value.ref a, Value.str z u)) _ _ s
  refine wpAny_pure ?_
  refine wpAny_bind (wpAny_isInstance (T := "str") (typeIs_str s z u) PySem.F.sub_str_dict ?_)
  simp only [Bool.not_false, if_true]
  refine wpAny_bind (wpAny_rule ?_)
  exact wpAny_pure ⟨_, rfl, q⟩
end
/-- an empty dict is unlike a text -/
theorem eq_emp {X : Cx} {pins : List (Addr × Obj)} {σ : L2.St} {H : Hp} {s : Shared} {a : Addr} {z : Str} {u : Tok} {Q : Value → Shared → Prop} {E : Value → Shared → Prop} (I : Inv X pins σ H s) (hu : X.A.units < cLine) (he : H a = some (.dK [])) (q : Q (.bool false) s) :
    wpAny (model X.prog X.w) X.A (compareOp .Eq (.ref a) (.str z u)) Q E s := by
  obtain ⟨_, hs, vs, kv, o, es, ep, ho, hx, hda, _, hp, _⟩ := I.hok _ _ he
  show wpAny _ _ (richCompare .Eq _ _) _ _ _
  have ty : s.TypeIs (.ref a) "dict" := ⟨o, ho, hx.1⟩
  exact SeqAt.rc_eq_decline_or (k := false) ty (typeIs_str s z u) (by decide) PySem.F.sub_str_dict PySem.F.slot_dict_eq PySem.F.slot_str_eq_refl
    (fun _ hq => dict_declines ty hq)
    (fun _ hq => call_meets PySem.F.slot_str_eq_refl (typeIs_str s z u) PySem.F.entry_str_eq (PySem.F.args_str_eq_2 _ _) (str_declines z u a o es ep) ⟨ho, hda, hq⟩)
    (fun _ hq => wpAny_of_eq (rfl : isSame (.ref a) (.str z u) = pure false) hq) (.inr hu) q
/-- x == z of data x, and of an empty dict, and a text z -/
def rEqZ (K : PySem.W.Frag) : R2 := fun x y H Q => ∃ z, y = .str z ∧ ((∃ d, Dp K H x d ∧ SeqAt.shaped d = true ∧ PyData.strOk z = true ∧ Q (.bl (PyData.eqv d (.str z))) H) ∨ ∃ a, x = .ref a ∧ H a = some (.dK []) ∧ Q (.bl false) H)
theorem op_eqZ {X : Cx} (hu : X.A.units + 64 < cLine) : OpR X (compareOp .Eq) (rEqZ X.K) := by
  intro pins s σ H x y v u Q I rx ry h
  obtain ⟨z, rfl, ⟨d, hd, sd, so, q⟩ | ⟨a, rfl, he, q⟩⟩ := h
  · refine op_eqD hu pins s σ H x (.str z) v u Q I rx ry ⟨d, _, hd, .str z, sd, ?_, q⟩
    show (PyData.strOk z && decide (0 ≤ 64)) = true
    rw [so]
    rfl
  · cases rx
    obtain ⟨t, rfl⟩ := ry
    exact eq_emp I (by omega) he ⟨.bl false, H, I, rfl, q⟩
end AT

set_option maxHeartbeats 4000000
namespace AT
open PySem PySem.Spec PyProof.Rows L2
/-- the law's call, from its def's promise -/
theorem lawO {P : Program} {w : World} {K : PySem.W.Frag} {mg mb : Str → Option Value} {CX : CXT} {k : Nat} {fa a : Addr} {x : Str} {sp : Sp} {st : Shared} {vs : List Value} {ns : List Int}
    (KI : K.In st.heap) (hG : st.heap.Ns mainGlobals mg) (hB : st.heap.Ns builtinsNs mb) (hBb : ∀ x : Str, x ≠ "__name__" → mb x = bootBuiltins x) (hNl : st.heap.NoLimit) (hgs : st.gens = #[])
    (hob : st.heap.get? a = some { cls := .type "list", data := .seq vs.toArray }) (hin : IntsAre vs ns) (hsz : ns.length ≤ sizeLine) (hr : Room k callerA)
    (F : ∀ base : Heap, K.In base → base.Ns mainGlobals mg → ∃ fd, FnG P w K mg base CX k fa fd [x] sp ∧ Binds K fd [x] [])
    (hsp : ∀ H : Hp, Only H → SqL K H a (ns.map V.int) → sp [.ref a] H (fun v _ => v = .bl true) fun _ _ _ => False)
    (hno : ∀ H e s', CX [] H st (fun _ _ _ => False) e s' → False) :
    codeAny (model P w) callerA (.call (.ref fa) ⟨[.ref a], []⟩) (fun r s' => r = .ok (.ret (.bool true)) ∧ OldK st.heap s'.heap ∧ s'.os = st.os ∧ AllBare s'.gens) st := by
  have rv := vals_ints hin
  have main : ∀ H : Hp, Only H → SqL K H a (ns.map V.int) → HOk P w H st.heap → (∀ b, H b ≠ none → b = a) → (H a ≠ none → K.lookup a = none) →
      codeAny (model P w) callerA (.call (.ref fa) ⟨[.ref a], []⟩) (fun r s' => r = .ok (.ret (.bool true)) ∧ OldK st.heap s'.heap ∧ s'.os = st.os ∧ AllBare s'.gens) st := by
    intro H hO hS hok hA hKa
    have free : ∀ {b : Addr} {o : Obj} {es : Array DictEntry} {ep : Nat}, st.heap.get? b = some o → o.data = .dict es ep → H b = none := by
      intro b o es ep e d
      cases q : H b with
      | none => rfl
      | some u =>
        obtain rfl : b = a := hA b (by rw [q]; exact Option.some_ne_none u)
        rw [hob] at e
        cases e
        cases d
    have nsH : ∀ {b : Addr} {m : Str → Option Value}, st.heap.Ns b m → (hidT st.heap H).Ns b m := by
      rintro b m ⟨o, es, ep, e, d, rr⟩
      exact ⟨o, es, ep, hidT_get e (free e d), d, rr⟩
    have KH : K.In (hidT st.heap H) := by
      intro b o e
      refine hidT_get (KI b o e) ?_
      cases q : H b with
      | none => rfl
      | some u =>
        obtain rfl : b = a := hA b (by rw [q]; exact Option.some_ne_none u)
        rw [hKa (by rw [q]; exact Option.some_ne_none u)] at e
        cases e
    have hM : Mod K mg (hidT st.heap H) := by
      obtain ⟨mc, h1, h2⟩ := hNl
      exact ⟨KH, nsH hG, ⟨mb, nsH hB, hBb⟩, ⟨mc, nsH h1, h2⟩⟩
    have e0 : Env0 P w K mg (hidT st.heap H) callerA [] st H :=
      { frames := rfl, mod := hM, bs := fun b o e => of_hidT e, bsz := Nat.le_of_eq (hidT_size _ _), funs := trivial, frf := (by intro b hb; exact absurd hb (by simp [frs])), hok := hok, bare := .of_eq hgs }
    obtain ⟨fd, hF, hbd⟩ := F _ KH (nsH hG)
    refine codeAny_mono (hF.run callerA [] st H ⟨[.ref a], []⟩ [.ref a] [.ref a] _ _ rfl hr e0 (hbd st [.ref a] KI rfl) (.cons rfl .nil) (hsp H hO hS)) fun r s' h => ?_
    cases r with
    | error e => exact (hno H e s' h).elim
    | ok fl =>
      cases fl with
      | ret u =>
        obtain ⟨v, H', eos, br, un, hok', r', q⟩ := h
        obtain rfl : v = .bl true := q
        obtain rfl : u = Value.bool true := r'
        refine ⟨rfl, OldK.of_keep fun b o e => ?_, eos, br⟩
        cases q : H b with
        | none => exact un.keep b o e q (by simp [frs]) (by simp)
        | some u =>
          rcases hO b with z | ⟨ob, xs, z⟩
          · rw [q] at z
            cases z
          · have y2 := (hok' b _ (un.frzs b ob _ z)).1
            have y1 := (hok b _ z).1
            rw [e] at y1
            cases y1
            exact y2
      | _ => exact False.elim h
  cases hk : K.lookup a with
  | some o =>
    have e := KI a o hk
    rw [hob] at e
    cases e
    refine main (fun _ => none) (fun _ => .inl rfl) (.inr ⟨_, vs.toArray, _, hk, rfl, rfl, rfl, ?_, by simpa using rv⟩) ?_ (fun b z => absurd rfl z) fun z => absurd rfl z
    · rw [List.size_toArray, hin.length]
      exact hsz
    · intro b u z
      exact nomatch (show (none : Option HO) = some u from z)
  | none =>
    let o1 : Obj := { cls := .type "list", data := .seq vs.toArray }
    refine main (fun b => if b = a then some (.frz o1 (.lst (ns.map V.int))) else none) (fun b => ?_) (.inl (.inr ⟨o1, if_pos rfl⟩)) (fun b u z => ?_) (fun b z => ?_) fun _ => hk
    · by_cases hb : b = a
      · exact .inr ⟨_, _, if_pos hb⟩
      · exact .inl (if_neg hb)
    · by_cases hb : b = a
      · have y := (if_pos hb).symm.trans z
        cases y
        subst hb
        exact ⟨hob, by rw [List.length_map]; exact hsz, vs, _, rv, hob⟩
      · have y := (if_neg hb).symm.trans z
        cases y
    · by_cases hb : b = a
      · exact hb
      · exact absurd (if_neg hb) z
theorem walkO {l : PySem.W.OpenLaw} {n k : Nat} {q : Program} {loose : List Str} {XP : (Str → Option Value) → Heap → Prop} {YP : World → Heap → Prop} {d : DefRec} {CX : World → CXT} {x : Str}
    (hn : l.most = some n) (hn2 : n ≤ sizeLine) (hdf : d.params.defaults = []) (hr : Room k callerA)
    (F : ∀ (w : World) (mg : Str → Option Value) (fa : Addr) (h : Heap), YP w h → h.Ns mainGlobals mg → mg d.name = some (.ref fa) →
      ∃ (K : PySem.W.Frag) (sp : Sp), K.In h ∧
        (∀ (H : Hp) (a : Addr) (ns : List Int), ns.length ≤ n → Only H → SqL K H a (ns.map V.int) → sp [.ref a] H (fun v _ => v = .bl true) fun _ _ _ => False) ∧
        ∀ base : Heap, K.In base → base.Ns mainGlobals mg → ∃ fd, FnG l.prog w K mg base (CX w) k fa fd [x] sp ∧ Binds K fd [x] [])
    (hno : ∀ (w : World) (H : Hp) (s : Shared) (e : Value) (s' : Shared), CX w [] H s (fun _ _ _ => False) e s' → False) :
    PySem.W.WalkO q loose XP YP l.row.toRowW d [] (fun f vs => PySem.call f vs) := by
  refine Att.attach_call hn hdf fun w _ st mg mb fa o pm cd doc a vs ns G Y _ _ _ hmg hob hin hlen hgs => ?_
  obtain ⟨K, sp, KI, hsp, hF⟩ := F w mg fa _ Y G.T.g hmg
  exact lawO KI G.T.g G.T.b G.T.builtins G.T.nolimit hgs hob hin (Nat.le_trans hlen hn2) hr hF (fun H hO hS => hsp H a ns hlen hO hS) fun H e s' => hno w H st e s'
end AT

set_option maxHeartbeats 4000000
namespace AT
open PySem PySem.Spec PyProof.Rows L2
/-! ### operators by an own class's method -/
def tyNames : List String := ["NoneType", "bool", "int", "str", "list", "tuple", "dict"]
/-- C answers the operator nm by its def f -/
structure OpC (K : PySem.W.Frag) (C f : Addr) (nm : String) : Prop where
  first : PySem.W.selfFirst K C = true
  find : PySem.W.findIn K (.ref C) (PySem.dunder nm) = some (some (.ref f))
  fn : PySem.W.isFn K (.ref f) = true
  back : PySem.W.findIn K (.ref C) (PySem.dunderR nm) = some none
  ty : ∀ T ∈ tyNames, ∃ fo ro, PySem.W.findIn K (.type T) (PySem.dunder nm) = some fo ∧ PySem.W.findIn K (.type T) (PySem.dunderR nm) = some ro ∧ PySem.W.subIn K (.type T) (.ref C) = some false
def opcB (x m : Str) (nm : String) (K : PySem.W.Frag) : Bool :=
  PySem.W.selfFirst K (He.ga K x) && (He.eqO (PySem.W.findIn K (.ref (He.ga K x)) (PySem.dunder nm)) (some (some (.ref (He.ma K (He.ga K x) m)))) && (PySem.W.isFn K (.ref (He.ma K (He.ga K x) m)) && (He.eqO (PySem.W.findIn K (.ref (He.ga K x)) (PySem.dunderR nm)) (some none) &&
    tyNames.all fun T => (PySem.W.findIn K (.type T) (PySem.dunder nm)).isSome && ((PySem.W.findIn K (.type T) (PySem.dunderR nm)).isSome && decide (PySem.W.subIn K (.type T) (.ref (He.ga K x)) = some false)))))
theorem opc_ok {x m : Str} {nm : String} {K : PySem.W.Frag} (h : opcB x m nm K = true) : OpC K (He.ga K x) (He.ma K (He.ga K x) m) nm := by
  unfold opcB at h
  simp only [Bool.and_eq_true, List.all_eq_true] at h
  obtain ⟨h1, h2, h3, h4, h5⟩ := h
  refine ⟨h1, He.eqO_ok h2, h3, He.eqO_ok h4, fun T hT => ?_⟩
  obtain ⟨a, b, c⟩ := h5 T hT
  obtain ⟨fo, ea⟩ := Option.isSome_iff_exists.mp a
  obtain ⟨ro, eb⟩ := Option.isSome_iff_exists.mp b
  exact ⟨fo, ro, ea, eb, of_decide_eq_true c⟩
/-- the other operand of a built-in type -/
theorem bin_ty {prog : Program} {w : World} {A : Around} {E : Value → Shared → Prop} {t : Shared} {K : PySem.W.Frag} {p C f : Addr} {oo : Obj} {od : Option Obj} {op : Operator} {u : Value} {T : String} {R : Value → Shared → Prop}
    (KI : K.In t.heap) (J : PySem.W.InstAt t.heap p oo C od) (hu : PySem.W.Looks (model prog w) t.heap (typeOf u) (.type T)) (O : OpC K C f op.info.2) (hT : T ∈ tyNames)
    (go : wpAny (model prog w) A (call (.ref f) [.ref p, u]) (PySem.W.CmpBack R) E t) : wpAny (model prog w) A (binaryOp op (.ref p) u) R E t := by
  obtain ⟨fo, ro, e1, e2, e3⟩ := O.ty T hT
  obtain ⟨cd, rest, ec, em⟩ := PySem.W.ksp_first O.first
  have first := O.find
  have back := O.back
  have fnn := O.fn
  rcases ei : op.info with ⟨sy, nm⟩
  rw [ei] at first back e1 e2
  dsimp only at first back e1 e2
  have turn := PySem.W.ksp_try KI J first fnn go
  obtain ⟨g0, g1, g2, g3, g4⟩ := t
  have k1 : PySem.W.Looks (model prog w) g0 (typeOf (.ref p)) (.ref C) := J.type
  have k2 : PySem.W.Looks (model prog w) g0 (typeOf u) (.type T) := hu
  have k3 : PySem.W.Looks (model prog w) g0 (fillsNumberSlot (.ref C) nm) true := PySem.W.fills_K KI ec em first
  have k4 : PySem.W.Looks (model prog w) g0 (fillsNumberSlot (.type T) nm) ((fo.isSome && !isSeqSlot fo) || (ro.isSome && !isSeqSlot ro)) := PySem.W.ksp_fillsT KI e1 e2
  have k5 : PySem.W.Looks (model prog w) g0 (isSubtype (.type T) (.ref C)) false := PySem.W.looks_subIn KI e3
  have k6 : PySem.W.Looks (model prog w) g0 (numberSlotInPython (.ref C) nm) true := PySem.W.ksp_inPy KI first back (.inl rfl)
  have k7 : PySem.W.Looks (model prog w) g0 (numberSlotInPython (.type T) nm) false := PySem.W.Looks.of_pure rfl
  have k8 : PySem.W.Looks (model prog w) g0 (typeLookup (.type T) (dunderR nm)) ro := PySem.W.looks_findIn KI e2
  generalize ((fo.isSome && !isSeqSlot fo) || (ro.isSome && !isSeqSlot ro)) = rr at k4
  have ne : (Value.ref C == Value.type T) = false := Bool.eq_false_iff.mpr fun z => by cases beq_iff_eq.mp z
  simp only [binaryOp, ei]
  refine wpAny_holding (wpAny_bind ?_)
  unfold binaryOp1
  refine wpAny_bind (k1.at (wpAny_bind (k2.at (wpAny_bind (k3.at ?_)))))
  simp only [ne, Bool.false_eq_true, if_false]
  cases rr
  all_goals
    ksp_lk
    refine wpAny_mono turn (fun r t' z => ?_) fun _ _ z => z
    obtain ⟨v, rfl, z⟩ := z
    ksp_lk
    exact z
/-- x op y by the def of x's class -/
def rOwn (K : PySem.W.Frag) (C : Addr) (sp : Sp) (E : XK) : R2 := fun x y H Q => ∃ p d fs t, x = .ref p ∧ H p = some (.ins C d fs) ∧ TyX K H y t ∧ (t = .ref C ∨ ∃ T, t = .type T ∧ T ∈ tyNames) ∧ sp [.ref p, y] H Q E
theorem ep_back {X : Cx} {pins : List (Addr × Obj)} {σ : L2.St} {Q : VK} {v : Value} {s : Shared} (h : EP X pins σ Q v s) : PySem.W.CmpBack (EP X pins σ Q) v s := by
  obtain ⟨x, H, I, r, q⟩ := id h
  cases v with
  | notImplemented =>
    cases x <;> first | exact nomatch r | (obtain ⟨_, z⟩ := r; exact nomatch z)
  | _ => exact h
section
variable {X : Cx} {C f : Addr} {k : Nat} {ps : List Str} {sp : Sp} {E : XK}
theorem op_own {op : Operator} (O : OpC X.K C f op.info.2) (F : Ok X.prog X.w X.K X.mg X.base k f ps sp) (hr : Room k X.A) (hx : Passes (L2.CX X.prog X.w) X E) : OpR X (binaryOp op) (rOwn X.K C sp E) := by
  intro pins s σ H x y v u Q I rx ry h
  obtain ⟨p, d, fs, t, rfl, hp, ty, ht, hsp⟩ := h
  obtain ⟨fd, F1, b, kp⟩ := F
  cases rx
  obtain ⟨mA, J, _⟩ := ins_get I.hok hp
  obtain ⟨od, J, _⟩ := J.look
  obtain ⟨P, kx, hP, _⟩ := kit_of I ry ty
  have look : PySem.W.Looks (model X.prog X.w) s.heap (typeOf u) t := kx.ty _ _ I.kIn hP
  have run : wpAny (model X.prog X.w) X.A (call (.ref f) [.ref p, u]) (PySem.W.CmpBack (EP X pins σ Q)) X.xe s :=
    wpAny_mono (run_fn (us := [.ref p, u]) (vs := [.ref p, y]) (ds := []) (dvs := []) F1 hr b .nil hx I (.cons rfl (.cons ry .nil)) hsp) (fun _ _ z => ep_back z) fun _ _ z => z
  rcases ht with rfl | ⟨T, rfl, hT⟩
  · obtain ⟨m, hF⟩ := I.fr
    exact PySem.W.binop_K hF I.ok.mod.kin J look O.first O.find O.fn run
  · exact bin_ty I.kIn J look O hT run
/-- -x by the def of x's class -/
def rOwn1 (C : Addr) (sp : Sp) (E : XK) : V → Hp → VK → Prop := fun x H Q => ∃ p d fs, x = .ref p ∧ H p = some (.ins C d fs) ∧ sp [.ref p] H Q E
theorem un_own (hs : PySem.W.findIn X.K (.ref C) "__neg__" = some (some (.ref f))) (hf : PySem.W.isFn X.K (.ref f) = true) (F : Ok X.prog X.w X.K X.mg X.base k f ps sp) (hr : Room k X.A) (hx : Passes (L2.CX X.prog X.w) X E) : UnR X (unaryOp .USub) (rOwn1 C sp E) := by
  intro pins s σ H x v Q I rx h
  obtain ⟨p, d, fs, rfl, hp, hsp⟩ := h
  obtain ⟨fd, F1, b, kp⟩ := F
  cases rx
  obtain ⟨mA, J, _⟩ := ins_get I.hok hp
  obtain ⟨od, J, _⟩ := J.look
  obtain ⟨m, hF⟩ := I.fr
  exact PySem.W.ksp_neg hF I.ok.mod.kin J hs hf (run_fn (us := [.ref p]) (vs := [.ref p]) (ds := []) (dvs := []) F1 hr b .nil hx I (.cons rfl .nil) hsp)
end
end AT

set_option maxHeartbeats 4000000
namespace AT
open PySem PySem.Spec PyProof.Rows L2
/-! ### == and != by an own class's __eq__ -/
structure EqC (K : PySem.W.Frag) (C f : Addr) : Prop where
  find : PySem.W.findIn K (.ref C) "__eq__" = some (some (.ref f))
  fn : PySem.W.isFn K (.ref f) = true
  sub : ∀ T ∈ tyNames, PySem.W.subIn K (.type T) (.ref C) = some false
  ne : PySem.W.findIn K (.ref C) "__ne__" = some (some (.builtin "object.__ne__"))
  obj : PySem.W.mroIn K C (.type "object") = some true
def eqcB (x : Str) (K : PySem.W.Frag) : Bool :=
  He.eqO (PySem.W.findIn K (.ref (He.ga K x)) "__eq__") (some (some (.ref (He.ma K (He.ga K x) "__eq__")))) && (PySem.W.isFn K (.ref (He.ma K (He.ga K x) "__eq__")) && ((tyNames.all fun T => decide (PySem.W.subIn K (.type T) (.ref (He.ga K x)) = some false)) &&
    (He.eqO (PySem.W.findIn K (.ref (He.ga K x)) "__ne__") (some (some (.builtin "object.__ne__"))) && decide (PySem.W.mroIn K (He.ga K x) (.type "object") = some true))))
theorem eqc_ok {x : Str} {K : PySem.W.Frag} (h : eqcB x K = true) : EqC K (He.ga K x) (He.ma K (He.ga K x) "__eq__") := by
  unfold eqcB at h
  simp only [Bool.and_eq_true, List.all_eq_true] at h
  obtain ⟨h1, h2, h3, h4, h5⟩ := h
  exact ⟨He.eqO_ok h1, h2, fun T hT => of_decide_eq_true (h3 T hT), He.eqO_ok h4, of_decide_eq_true h5⟩
section
variable {X : Cx} {C f : Addr} {k : Nat} {ps : List Str} {sp : Sp} {E : XK}
/-- the callee runs a little deeper in C -/
theorem run_in {A : Around} {fd : FuncData} {pins : List (Addr × Obj)} {σ : L2.St} {H : Hp} {s : Shared} {Q : VK} {us : List Value} {vs : List V} (hA : A.frames = X.A.frames) (F : FnOk X.prog X.w X.K X.mg X.base (L2.CX X.prog X.w) k f fd ps sp) (hr : Room k A) (hb : Binds X.K fd ps [])
    (hx : Passes (L2.CX X.prog X.w) X E) (I : Inv X pins σ H s) (r : Vals vs us) (h : sp vs H Q E) : wpAny (model X.prog X.w) A (call (.ref f) us) (EP X pins σ Q) X.xe s := by
  have hl : us.length = ps.length := by rw [← r.length]; exact F.len _ _ _ _ h
  have e := I.env0
  have e0 : Env0 X.prog X.w X.K X.mg X.base A X.stack s H := ⟨by rw [hA]; exact e.frames, e.mod, e.bs, e.bsz, e.funs, e.frf, e.hok, e.bare⟩
  have b := hb s us I.kIn (by simpa using hl)
  rw [List.append_nil] at b
  refine wpAny_call (codeAny_mono (F.run A X.stack s H ⟨us, []⟩ us vs Q E hr e0 b r h) fun res s' hq => ?_)
  cases res with
  | error er => exact hx pins σ H s er s' I hq
  | ok fl =>
    cases fl with
    | ret u => exact I.after hq
    | _ => exact False.elim hq
def OfTy (K : PySem.W.Frag) (H : Hp) (C : Addr) (y : V) : Prop := ∃ t, TyX K H y t ∧ (t = .ref C ∨ ∃ T, t = .type T ∧ T ∈ tyNames)
def rEqO (K : PySem.W.Frag) (C : Addr) (sp : Sp) (E : XK) : R2 := fun x y H Q => ∃ p d fs, x = .ref p ∧ H p = some (.ins C d fs) ∧ OfTy K H C y ∧ sp [.ref p, y] H Q E
def rNeO (K : PySem.W.Frag) (C : Addr) (sp : Sp) (E : XK) : R2 := fun x y H Q => ∃ p d fs, x = .ref p ∧ H p = some (.ins C d fs) ∧ OfTy K H C y ∧ sp [.ref p, y] H (fun v H' => ∃ b, v = .bl b ∧ Q (.bl !b) H') E
theorem not_first {K : PySem.W.Frag} {t : Value} (O : EqC K C f) (h : t = .ref C ∨ ∃ T, t = .type T ∧ T ∈ tyNames) : PySem.W.notFirst K C t = true := by
  unfold PySem.W.notFirst
  rcases h with rfl | ⟨T, rfl, hT⟩
  · simp
  · rw [O.sub T hT]
    simp
theorem op_eqO (O : EqC X.K C f) (F : Ok X.prog X.w X.K X.mg X.base k f ps sp) (hr : Room k X.A) (hx : Passes (L2.CX X.prog X.w) X E) : OpR X (compareOp .Eq) (rEqO X.K C sp E) := by
  intro pins s σ H x y v u Q I rx ry h
  obtain ⟨p, d, fs, rfl, hp, ⟨t, ty, ht⟩, hsp⟩ := h
  obtain ⟨fd, F1, b, kp⟩ := F
  cases rx
  obtain ⟨mA, J, _⟩ := ins_get I.hok hp
  obtain ⟨od, J, _⟩ := J.look
  obtain ⟨P, kx, hP, _⟩ := kit_of I ry ty
  obtain ⟨m, hF⟩ := I.fr
  exact PySem.W.cmp_K (op := .Eq) hr.units0 hF I.ok.mod.kin J (kx.ty _ _ I.kIn hP) (not_first O ht) O.find O.fn
    (wpAny_mono (run_in (us := [.ref p, u]) (vs := [.ref p, y]) rfl F1 hr b hx I (.cons rfl (.cons ry .nil)) hsp) (fun _ _ z => ep_back z) fun _ _ z => z)
/-- object.__ne__ of an instance asks its class's __eq__ -/
theorem ne_body {prog : Program} {w : World} {A : Around} {E1 : Value → Shared → Prop} {t : Shared} {K : PySem.W.Frag} {p C f : Addr} {oo : Obj} {od : Option Obj} {u : Value} {R : Fin → Shared → Prop} (KI : K.In t.heap) (J : PySem.W.InstAt t.heap p oo C od) (O : EqC K C f) (hu : A.units < cLine)
    (go : wpAny (model prog w) A (call (.ref f) [.ref p, u]) (fun v t' => ∃ b, v = .bool b ∧ R (.done (.ret (.bool (!b)))) t') E1 t) : wpAny (model prog w) A (Builtin.«object.__ne__» ⟨[.ref p, u], []⟩) R E1 t := by
  unfold Builtin.«object.__ne__»
  show wpAny _ _ (cRoomFor "comparison" [.ref p, u] >>= _) _ _ _
  refine wpAny_bind (wpAny_cRoomFor hu ?_)
  refine wpAny_bind (m := callSpecialIfBound? (.ref p) (Str.ofString "__eq__") [u]) (PySem.W.ifBound_K KI J O.find O.fn (wpAny_mono go (fun v t' z => ?_) fun _ _ z => z))
  obtain ⟨b, rfl, z⟩ := z
  exact wpAny_bind (wpAny_truthy_bool (wpAny_pure z))
theorem ne_bound {M : Model} {A : Around} {E1 : Value → Shared → Prop} {t : Shared} {K : PySem.W.Frag} {p C : Addr} {oo : Obj} {od : Option Obj} {us : List Value} {R : Option Value → Shared → Prop} (KI : K.In t.heap) (J : PySem.W.InstAt t.heap p oo C od)
    (hs : PySem.W.findIn K (.ref C) "__ne__" = some (some (.builtin "object.__ne__"))) (go : wpAny M A (call (.builtin "object.__ne__") (.ref p :: us)) (fun v => R (some v)) E1 t) : wpAny M A (callSpecialIfBound? (.ref p) "__ne__" us) R E1 t := by
  simp only [callSpecialIfBound?, bindSpecialIfBound?]
  refine wpAny_holding (wpAny_bind (wpAny_bind (wpAny_bind (J.type.here ((PySem.W.looks_findIn KI hs).here ?_)))))
  refine wpAny_bind (wpAny_askSetting (wpAny_ite ?_))
  have last : wpAny M A (call (.builtin "object.__ne__") ([.ref p] ++ us) >>= fun v => pure (some v)) R E1 t := wpAny_bind (wpAny_mono go (fun v t' z => wpAny_pure z) fun _ _ z => z)
  split
  · exact wpAny_bind (wpAny_of_eq (F.cmp_object.ne.bind _) (wpAny_pure (by exact last)))
  · exact wpAny_tryCatch (wpAny_bind (wpAny_of_eq (F.cmp_object.ne.bind _) (wpAny_pure (by exact last))))
theorem ne_own {prog : Program} {w : World} {A : Around} {E1 : Value → Shared → Prop} {t : Shared} {K : PySem.W.Frag} {p C f : Addr} {oo : Obj} {od : Option Obj} {u ty : Value} {R : Value → Shared → Prop} (KI : K.In t.heap) (J : PySem.W.InstAt t.heap p oo C od) (O : EqC K C f) (hu : A.units + 1 < cLine)
    (hty : PySem.W.Looks (model prog w) t.heap (typeOf u) ty) (hn : PySem.W.notFirst K C ty = true)
    (go : wpAny (model prog w) A.in1 (call (.ref f) [.ref p, u]) (fun v t' => ∃ b, v = .bool b ∧ R (.bool (!b)) t') E1 t) : wpAny (model prog w) A (compareOp .NotEq (.ref p) u) R E1 t := by
  have turn : wpAny (model prog w) A (tryCompare (.ref p) "__ne__" u) (fun r t' => ∃ v, r = some v ∧ R v t') E1 t := by
    unfold tryCompare
    refine wpAny_bind (ne_bound KI J O.ne (wpAny_call (codeAny_call_builtin F.cmp_object.ne.plain F.cmpEntry_ne (PySem.W.check_slot F.cmpKind_ne F.cmpSplit_ne (J.type.andThen (PySem.W.looks_mroIn KI O.obj)) (F.cmpArgs_ne _ _)
      (ne_body (A := A.in1) KI J O hu (wpAny_mono go (fun v t' z => ?_) fun _ _ z => z))))))
    obtain ⟨b, rfl, z⟩ := z
    exact ⟨b, rfl, wpAny_pure ⟨_, rfl, z⟩⟩
  show wpAny _ _ (richCompare .NotEq _ _) _ _ _
  simp only [richCompare, cmpInfo_NotEq, oneThing_ref]
  refine wpAny_holding (wpAny_bind (wpAny_cRoomFor (Nat.lt_of_succ_lt hu) ?_))
  refine wpAny_bind (J.type.here (wpAny_bind (hty.here ?_)))
  split
  · rename_i z
    have e : PySem.W.subIn K ty (.ref C) = some false := by
      rcases Bool.or_eq_true_iff.mp hn with e | e
      · rw [beq_iff_eq.mp e] at z
        simp at z
      · exact beq_iff_eq.mp e
    refine wpAny_bind ((PySem.W.looks_subIn KI e).here ?_)
    simp only [Bool.false_eq_true, if_false]
    refine wpAny_bind (wpAny_mono turn (fun r t' y => ?_) fun _ _ y => y)
    obtain ⟨v, rfl, y⟩ := y
    exact wpAny_pure y
  · refine wpAny_bind (wpAny_pure ?_)
    simp only [Bool.false_eq_true, if_false]
    refine wpAny_bind (wpAny_mono turn (fun r t' y => ?_) fun _ _ y => y)
    obtain ⟨v, rfl, y⟩ := y
    exact wpAny_pure y
theorem op_neO (O : EqC X.K C f) (F : Ok X.prog X.w X.K X.mg X.base k f ps sp) (hr : Room (k + 1) X.A) (hx : Passes (L2.CX X.prog X.w) X E) : OpR X (compareOp .NotEq) (rNeO X.K C sp E) := by
  intro pins s σ H x y v u Q I rx ry h
  obtain ⟨p, d, fs, rfl, hp, ⟨t, ty, ht⟩, hsp⟩ := h
  obtain ⟨fd, F1, b, kp⟩ := F
  cases rx
  obtain ⟨mA, J, _⟩ := ins_get I.hok hp
  obtain ⟨od, J, _⟩ := J.look
  obtain ⟨P, kx, hP, _⟩ := kit_of I ry ty
  refine ne_own I.kIn J O (by have := hr.un; omega) (kx.ty _ _ I.kIn hP) (not_first O ht) (wpAny_mono (run_in (A := X.A.in1) (us := [.ref p, u]) (vs := [.ref p, y]) rfl F1 hr.in1 b hx I (.cons rfl (.cons ry .nil)) hsp) (fun v s' z => ?_) fun _ _ z => z)
  obtain ⟨xv, H', I', rz, bb, rfl, q⟩ := z
  cases rz
  exact ⟨bb, rfl, .bl _, H', I', rfl, q⟩
end
end AT

set_option maxHeartbeats 4000000
namespace AT
open PySem PySem.Spec PyProof.Rows L2
section
variable {X : Cx} {k : Nat} {f C : Addr} {ps : List Str} {sp : Sp} {dvs : List V} {E : XK} {x m : Str} {p pos apos : Pos} {e o : Expr} {es : List Expr} {ta : TE} {t : TA}
/-- o.m(..) -/
theorem ok_meth {pl : Sem Bool} (c : Cls X.K C) (hm : Meth X.K C m f) (F : Ok X.prog X.w X.K X.mg X.base k f ps sp) (hr : Room k X.A) (hx : Passes (L2.CX X.prog X.w) X E) (he : PE X o ta) (ha : PA X (e :: es) t)
    (hst : starEach (e :: es) X.env = (false, eval e X.env) :: starEach es X.env := by rfl) (hpl : (backTo pos (starEach es X.env)).any (·.1) = false := by rfl)
    (ht : eval (.Call (.Attribute o m apos) (e :: es) [] pos) X.env = (do
      let w0 ← eval o X.env
      standAt apos.atName
      let (g0, us0) ← holding [w0] (getMethod w0 m pl)
      callWith pos g0 us0 (backTo pos (starEach (e :: es) X.env)) (backToKw pos (keywordEach [] X.env))) := by rfl) :
    PE X (.Call (.Attribute o m apos) (e :: es) [] pos) (tMeth C m sp [] E ta t) := by
  obtain ⟨fd, F1, b, kp⟩ := F
  exact pe_meth he c hm F1 hr b .nil hx ha hst hpl ht
theorem ok_meth0 {pl : Sem Bool} (c : Cls X.K C) (hm : Meth X.K C m f) (F : Ok X.prog X.w X.K X.mg X.base k f ps sp) (hr : Room k X.A) (hx : Passes (L2.CX X.prog X.w) X E) (he : PE X o ta)
    (ht : eval (.Call (.Attribute o m apos) [] [] pos) X.env = (do
      let w0 ← eval o X.env
      standAt apos.atName
      let (g0, us0) ← holding [w0] (getMethod w0 m pl)
      callWith pos g0 us0 (backTo pos (starEach [] X.env)) (backToKw pos (keywordEach [] X.env))) := by rfl) :
    PE X (.Call (.Attribute o m apos) [] [] pos) (tMeth C m sp [] E ta tNil) := by
  obtain ⟨fd, F1, b, kp⟩ := F
  exact pe_meth0 he c hm F1 hr b .nil hx ht
end
/-! ### lists of the very same objects and of flat values -/
def EqPair (x y : V) (b : Bool) : Prop := (∃ a, x = .ref a ∧ y = .ref a ∧ b = true) ∨ (flatV x = true ∧ flatV y = true ∧ b = eqV x y)
theorem EqPair.at {A : Around} {s : Shared} {x y : V} {u v : Value} {b : Bool} (h : EqPair x y b) (rx : RelV x u) (ry : RelV y v) : SeqAt.EqAt A s u v b := by
  rcases h with ⟨a, rfl, rfl, rfl⟩ | ⟨h1, h2, rfl⟩
  · cases rx
    cases ry
    exact SeqAt.EqAt.same _
  · exact eqAt_V rx ry h1 h2
def AlikeL (K : PySem.W.Frag) (x y : V) (H : Hp) (e : Nat → Bool) (n : Nat) : Prop := ∃ a b xs ys, x = .ref a ∧ y = .ref b ∧ SqL K H a xs ∧ SqL K H b ys ∧ xs.length = n ∧ ys.length = n ∧ ∀ i x y, xs[i]? = some x → ys[i]? = some y → EqPair x y (e i)
def rEqI (K : PySem.W.Frag) : R2 := fun x y H Q => ∃ e n, AlikeL K x y H e n ∧ Q (.bl ((List.range n).all e)) H
def rNeI (K : PySem.W.Frag) : R2 := fun x y H Q => ∃ e n, AlikeL K x y H e n ∧ Q (.bl (!(List.range n).all e)) H
section
variable {X : Cx}
theorem alike_lists {pins : List (Addr × Obj)} {σ : L2.St} {H : Hp} {s : Shared} {x y : V} {u v : Value} {e : Nat → Bool} {n : Nat} (I : Inv X pins σ H s) (rx : RelV x u) (ry : RelV y v) (h : AlikeL X.K x y H e n) :
    ∃ (a b : Addr) (is js : Array Value), u = .ref a ∧ v = .ref b ∧ s.heap.IsList a is ∧ s.heap.IsList b js ∧ is.size = n ∧ js.size = n ∧ ∀ (A : Around) j (h1 : j < is.size) (h2 : j < js.size), SeqAt.EqAt A s is[j] js[j] (e j) := by
  obtain ⟨a, b, xs, ys, rfl, rfl, ha, hb, la, lb, hp⟩ := h
  cases rx
  cases ry
  obtain ⟨its, rv, pl, _⟩ := I.list ha
  obtain ⟨jts, rw, ql, _⟩ := I.list hb
  refine ⟨a, b, its.toArray, jts.toArray, rfl, rfl, pl.isList, ql.isList, ?_, ?_, fun A j h1 h2 => ?_⟩
  · rw [List.size_toArray, ← rv.length]; exact la
  · rw [List.size_toArray, ← rw.length]; exact lb
  · rw [List.size_toArray] at h1 h2
    have g1 : j < xs.length := by rw [rv.length]; exact h1
    have g2 : j < ys.length := by rw [rw.length]; exact h2
    obtain ⟨u1, e1, r1⟩ := rv.get (List.getElem?_eq_getElem g1)
    obtain ⟨u2, e2, r2⟩ := rw.get (List.getElem?_eq_getElem g2)
    rw [List.getElem?_eq_getElem h1] at e1
    rw [List.getElem?_eq_getElem h2] at e2
    cases e1
    cases e2
    exact (hp j _ _ (List.getElem?_eq_getElem g1) (List.getElem?_eq_getElem g2)).at r1 r2
theorem op_eqI (hu : X.A.units + 64 < cLine) : OpR X (compareOp .Eq) (rEqI X.K) := by
  intro pins s σ H x y v u Q I rx ry h
  obtain ⟨e, n, al, q⟩ := h
  obtain ⟨a, b, is, js, rfl, rfl, l1, l2, n1, n2, el⟩ := alike_lists I rx ry al
  refine (SeqAt.RcAt.lists (e := e) l1 l2 (by rw [n1, n2]) (by omega) (el _)) X.prog X.w X.xe _ ?_
  rw [n1]
  exact ⟨.bl _, H, I, rfl, q⟩
theorem op_neI (hu : X.A.units + 64 < cLine) : OpR X (compareOp .NotEq) (rNeI X.K) := by
  intro pins s σ H x y v u Q I rx ry h
  obtain ⟨e, n, al, q⟩ := h
  obtain ⟨a, b, is, js, rfl, rfl, l1, l2, n1, n2, el⟩ := alike_lists I rx ry al
  refine (SeqAt.RcNeAt.lists (e := e) l1 l2 (by rw [n1, n2]) (by omega) (el _)) X.prog X.w X.xe _ ?_
  rw [n1]
  exact ⟨.bl _, H, I, rfl, q⟩
end
/-- what is never reached -/
theorem pe_never {X : Cx} {e : Expr} : PE X e (fun _ _ _ => False) := ⟨fun _ _ _ _ _ _ z => z.elim⟩
/-! ### defaults that are objects -/
def dflA (loc : PySem.W.Frag → Addr) (i : Nat) (K : PySem.W.Frag) : Addr := match K.lookup (loc K) with
  | some ⟨_, _, .func u, _⟩ => (match u.defaults with
    | .ref T => (match K.lookup T with
      | some ⟨_, _, .seq its _, _⟩ => (match its[i]? with
        | some (.ref a) => a
        | _ => 0)
      | _ => 0)
    | _ => 0)
  | _ => 0
def tup0B (a : PySem.W.Frag → Addr) (K : PySem.W.Frag) : Bool := match K.lookup (a K) with
  | some ⟨.type "tuple", _, .seq its _, _⟩ => its.isEmpty
  | _ => false
theorem tup0_ok {a : PySem.W.Frag → Addr} {K : PySem.W.Frag} (h : tup0B a K = true) (H : Hp) : SqT K H (a K) [] := by
  unfold tup0B at h
  split at h
  · rename_i d its n sl e
    have z : its = #[] := by simpa using h
    subst z
    exact .inr ⟨_, _, _, e, rfl, rfl, Nat.zero_le _, .nil⟩
  · cases h
end AT

set_option maxHeartbeats 4000000
namespace AT
open PySem PySem.Spec PyProof.Rows L2
open AutoSeq1 (wpAny_loadPart')
/-! ### enumerate of a tuple -/
abbrev tupIt (t : Addr) : Obj := { cls := .type "tuple_iterator", data := .fields #[.ref t, .int 0 0] }
abbrev enumOf (it : Addr) : Obj := { cls := .type "enumerate", data := .fields #[.none, .bool false, .ref it, rawInt 0, .none, .none] }
theorem new_enum (t : Addr) (its : Array Value) (n : Nat) (dd : Option Addr) (sl : Array (Option Value)) :
    Meets (Builtin.«enumerate.__new__» ⟨[.type "enumerate", .ref t], []⟩) (fun _ R s => s.heap.get? t = some ⟨.type "tuple", dd, .seq its n, sl⟩ ∧ R (.ok (.ret (.ref (s.heap.push (tupIt t)).objs.size))) { s with heap := (s.heap.push (tupIt t)).push (enumOf s.heap.objs.size) }) :=
  .of_wp fun prog w A R s h => by
    obtain ⟨g0, g1, g2, g3, g4⟩ := s
    obtain ⟨ht, h⟩ := h
    have sube := sub_enumerate
    have tt : Heap.IsTuple (Shared.heap ⟨g0, g1, g2, g3, g4⟩) t its := ⟨_, ht, rfl, n, rfl⟩
    wp_walk using wpAny_loadPart' ht
    refine wpAny_stack_any fun st => wpAny_pure ?_
    split
    · rename_i c _ _ _ _ _
      cases (c == Value.type "enumerate")
      all_goals
        wp_walk using wpAny_loadPart' ht, wpAny_pyIter_tuple tt
        exact ⟨_, rfl, h⟩
    · wp_walk using wpAny_loadPart' ht, wpAny_pyIter_tuple tt
      exact ⟨_, rfl, h⟩
section
variable {prog : Program} {w : World} {A : Around} {E : Value → Shared → Prop} {s : Shared}
theorem call_enum {t : Addr} {its : Array Value} {Q : Value → Shared → Prop} (ht : s.heap.IsTuple t its)
    (go : ∀ h', IsEnum h' (s.heap.objs.size + 1) s.heap.objs.size 0 .none → h'.IsTupleIter s.heap.objs.size t 0 → (∀ b o, s.heap.get? b = some o → h'.get? b = some o) → Q (.ref (s.heap.objs.size + 1)) { s with heap := h' }) :
    wpAny (model prog w) A (call (.type "enumerate") [.ref t]) Q E s := by
  obtain ⟨⟨c, dd, dt, sl⟩, e1, e2, n, e3⟩ := ht
  replace e2 : c = .type "tuple" := e2
  replace e3 : dt = .seq its n := e3
  subst e2 e3
  refine callType_new F.called_enumerate (by decide) (F.typeCall_enumerate_1 _) (F.newCall_enumerate_1 _) (fun obj => F.args_object_init_2 obj _) F.entry_enumerate_new (new_enum t its n dd sl) ⟨e1, ?_⟩
  have sz : (s.heap.push (tupIt t)).objs.size = s.heap.objs.size + 1 := Heap.size_push ..
  show _ ∧ _
  rw [sz]
  have en : IsEnum ((s.heap.push (tupIt t)).push (enumOf s.heap.objs.size)) (s.heap.objs.size + 1) s.heap.objs.size 0 .none := by
    have z := Heap.get?_push_size (s.heap.push (tupIt t)) (o := enumOf s.heap.objs.size) rfl
    rw [sz] at z
    exact z
  exact ⟨⟨_, en, rfl⟩, go _ en ⟨_, Heap.get?_push_of_some _ (Heap.get?_push_size _ rfl), rfl, rfl⟩ fun b o z => Heap.get?_push_of_some _ (Heap.get?_push_of_some _ z)⟩
end
/-- the tuple at a, each item in a new pair -/
def IteT (K : PySem.W.Frag) (a : Addr) : It where
  go i H := ∃ (xs : List V) (x : V), SqT K H a xs ∧ xs[i]? = some x
  yld i H v H' := ∃ T x, v = .ref T ∧ H T = none ∧ H' = upd H T (.tup [.int (i : Nat), x]) ∧ ∀ xs, SqT K H a xs → xs[i]? = some x
  stop i H := ∃ xs : List V, SqT K H a xs ∧ xs.length ≤ i
theorem tup_ne {X : Cx} {pins : List (Addr × Obj)} {σ : L2.St} {H : Hp} {s : Shared} {t it : Addr} {i : Nat} {its : Array Value} (h : s.heap.IsTupleIter it t i) (g : s.heap.IsTuple t its) : t ≠ it := by
  rintro rfl
  obtain ⟨o, e, c, _⟩ := h
  obtain ⟨o', e', c', _⟩ := g
  rw [e] at e'
  cases e'
  rw [c] at c'
  exact absurd (Value.type.inj c') (by decide)
theorem turn_enumT {P : Program} {w : World} {K : PySem.W.Frag} {elts : List Expr} {kk : Nat} {tpos : Pos} (a e it : Addr) :
    Turn P w K (.Tuple elts kk tpos) (IteT K a) [e, it] e (fun i h => (∃ old, IsEnum h e it ((i : Nat) : Int) old) ∧ h.IsTupleIter it a i ∧ e ≠ it ∧ e ≠ a) where
  mem := by simp
  obj := fun i h st b hb => by
    obtain ⟨⟨old, he⟩, ⟨o, ho, hc, hd⟩, _⟩ := st
    rcases (show b = e ∨ b = it by simpa using hb) with z | z
    · rw [z]; exact ⟨_, he, fun v q => nomatch q⟩
    · rw [z]; exact ⟨o, ho, fun v q => by rw [hd] at q; cases q⟩
  keep := fun i h h' st k => by
    obtain ⟨⟨old, he⟩, hi, n1, n2⟩ := st
    exact ⟨⟨old, k e (by simp) _ he⟩, hi.at fun o q => k it (by simp) o q, n1, n2⟩
  item := by
    intro X hP hw hK hc i pins s σ H E I hf st hg
    subst hP hw hK
    obtain ⟨⟨old, he⟩, hi, n1, n2⟩ := st
    obtain ⟨xs, x, hq, hx⟩ := hg
    obtain ⟨its, rv, p, hz⟩ := I.tuple hq
    obtain ⟨u, hu, ru⟩ := rv.get hx
    have le : e < s.heap.objs.size := Heap.lt_size he
    have li : it < s.heap.objs.size := by obtain ⟨_, q, _⟩ := hi; exact Heap.lt_size q
    have ne : a ≠ it := tup_ne (X := X) (pins := pins) (σ := σ) (H := H) hi p
    have lt : i < its.toArray.size := by
      rw [List.size_toArray]
      exact (List.getElem?_eq_some_iff.mp hu).1
    refine wpAny_pyNext_enum_itemD (Draws.tuple (A := X.A.in1) (I.ok.hd hc) it a ne its.toArray) he ⟨hi, p⟩ lt n1 (by simp [n1, n2]) fun v h' tk hv out st' hT hsz hk => ?_
    have ev : v = u := by
      have z : its.toArray[i]? = some v := hv
      rw [List.getElem?_toArray, hu] at z
      cases z
      rfl
    subst ev
    refine ⟨_, rfl, wpAny_letOwnedTupleGo_enum (s := { s with heap := h', toks := tk + 1 }) out fun h'' he' sb => ?_⟩
    have hT2 : h''.get? s.heap.objs.size = some { cls := .type "tuple", data := .seq #[.int i tk, v] } := (sb.2 _ (Nat.ne_of_gt le)).trans hT
    have new : ObjOk X.prog X.w (upd H s.heap.objs.size (.tup [.int (i : Nat), x])) h'' s.heap.objs.size (.tup [.int (i : Nat), x]) :=
      ⟨(by show 2 ≤ sizeLine; decide), [.int i tk, v], .cons ⟨_, rfl⟩ (.cons ru .nil), ⟨_, hT2, rfl, _, rfl⟩⟩
    have I1 : Inv X pins σ (upd H s.heap.objs.size (.tup [.int (i : Nat), x])) { s with heap := h'', toks := tk + 1 } :=
      I.turnedNew (ch := [e, it]) (fun b ob hb q => (sb.2 b (fun z => hb (by simp [z]))).trans (hk b ob (fun z => hb (by simp [z])) (fun z => hb (by simp [z])) q)) hf (Nat.le_refl _) new
    refine ⟨.ref s.heap.objs.size, _, I1, rfl, ⟨_, x, rfl, I.hok.fresh (Nat.le_refl _), rfl, fun ys hy => by rw [I.tuple_inj hy hq]; exact hx⟩, ⟨⟨v, ?_⟩, st'.1.at fun o q => (sb.2 it (Ne.symm n1)).trans q, n1, n2⟩, fun b hb => ?_⟩
    · rw [show ((i + 1 : Nat) : Int) = (i : Int) + 1 by omega]
      exact he'
    · have lb : b < s.heap.objs.size := by
        rcases (show b = e ∨ b = it by simpa using hb) with z | z
        · rw [z]; exact le
        · rw [z]; exact li
      rw [upd_ne (Nat.ne_of_lt lb)]
      exact (hf b hb).1
  done := by
    intro X hP hw hK hc i pins s σ H E I hf st hg
    subst hP hw hK
    obtain ⟨⟨old, he⟩, hi, n1, n2⟩ := st
    obtain ⟨xs, hq, hx⟩ := hg
    obtain ⟨its, rv, p, hz⟩ := I.tuple hq
    obtain ⟨f0, f1, f2, f3, f4, f5⟩ := hf it (by simp)
    have out : its.toArray[i]? = none := by
      rw [List.getElem?_toArray]
      exact List.getElem?_eq_none (by rw [← rv.length]; exact hx)
    have ty : s.TypeIs (.ref e) "enumerate" := ⟨_, he, rfl⟩
    unfold pyNext
    refine wpAny_bind (wpAny_attempt (wpAny_callSpecial?_slot (name := Str.ofString "__next__") ty F.slot_enumerate_next (wpAny_call_entry F.slot_enumerate_next ty F.entry_enumerate_next ?_ (F.args_enumerate_next_1 _))))
    show wpAny _ _ (field (.ref e) 2 >>= fun z => _) _ _ _
    refine wpAny_bind (wpAny_field he rfl (x := .ref it) rfl ?_)
    refine wpAny_bind (wpAny_nextOf_tuple_end (I.ok.hd hc) hi p out fun h' x e1 z => ?_)
    obtain ⟨o, e2, e3⟩ := z
    refine wpAny_bind (wpAny_isInstance (T := "StopIteration") (b := true) ⟨o, e2, e3⟩ isSubtype_stop ?_)
    exact wpAny_pure ⟨rfl, I.turned (t' := s.toks) (fun b o hb q => e1 b o hb q) f0 f1 f3 f4 f5⟩
  self := fun A i s Q E st h => let ⟨⟨_, he⟩, _⟩ := st; wpAny_pyIter_enum he h
/-- enumerate(x) of a list or a tuple -/
def EnOf (K : PySem.W.Frag) (H : Hp) (a : Addr) (xs : List V) (J : It) : Prop := (SqL K H a xs ∧ J = Ite K a) ∨ (SqT K H a xs ∧ J = IteT K a)
def iEnumA (K : PySem.W.Frag) (ta : TA) : TI := fun σ H R => ta σ H fun vs H1 => ∃ a xs, vs = [.ref a] ∧ (SqL K H1 a xs ∨ SqT K H1 a xs) ∧ ∀ J, EnOf K H1 a xs J → R J H1
theorem pi_enumA {X : Cx} {x : Expr} {ta : TA} {p pos tpos : Pos} {elts : List Expr} {kk : Nat} (hg : Gl X "enumerate") (hm : X.mg "enumerate" = none) (ha : PA X [x] ta) (hs : starEach [x] X.env = [(false, eval x X.env)] := by rfl) : PI X (.Tuple elts kk tpos) (.Call (.Name "enumerate" p) [x] [] pos) (iEnumA X.K ta) := by
  refine ⟨fun pins s σ H R I h => ?_⟩
  have fok : ∀ {s1 : Shared} {H1 : Hp}, Inv X pins σ H1 s1 → ∀ b ∈ [s1.heap.objs.size + 1, s1.heap.objs.size], FpOk X pins H1 b := fun {s1 H1} I1 b hb => by
    have le : s1.heap.objs.size ≤ b := by
      rcases (show b = s1.heap.objs.size + 1 ∨ b = s1.heap.objs.size by simpa using hb) with z | z
      · rw [z]; exact Nat.le_add_right _ _
      · rw [z]; exact Nat.le_refl _
    exact I1.fpOk le (I1.hok.fresh le)
  refine Call_ (ld_blt I hg hm boot_enumerate (PyProof.Rows.callWith_type1 (thn (ha.run pos pins s σ H _ I h) fun us s1 ⟨vs, H1, I1, r1, q1⟩ => ?_) hs rfl))
  obtain ⟨a, xs, rfl, q1⟩ := q1
  obtain ⟨u, rfl, ru⟩ := r1.one
  cases ru
  obtain ⟨hq | hq, q⟩ := q1
  · have q := q _ (.inl ⟨hq, rfl⟩)
    obtain ⟨its, rv, pl, _⟩ := I1.list hq
    refine call_enumerate_list pl.isList fun h' he hit _ hk => wpAny_pyIter_enum he ?_
    exact ⟨s1.heap.objs.size + 1, [s1.heap.objs.size + 1, s1.heap.objs.size], _, _, H1, rfl, I1.kept (t' := s1.toks) hk, turn_enum a (s1.heap.objs.size + 1) s1.heap.objs.size, ⟨⟨.none, he⟩, hit, Nat.succ_ne_self _⟩, fok I1, q⟩
  · have q := q _ (.inr ⟨hq, rfl⟩)
    obtain ⟨its, rv, pl, _⟩ := I1.tuple hq
    have la : a < s1.heap.objs.size := by obtain ⟨o, e, _⟩ := id pl; exact Heap.lt_size e
    refine call_enum pl fun h' he hit hk => wpAny_pyIter_enum he ?_
    exact ⟨s1.heap.objs.size + 1, [s1.heap.objs.size + 1, s1.heap.objs.size], _, _, H1, rfl, I1.kept (t' := s1.toks) hk, turn_enumT a (s1.heap.objs.size + 1) s1.heap.objs.size, ⟨⟨.none, he⟩, hit, Nat.succ_ne_self _, Nat.ne_of_gt (Nat.lt_succ_of_lt la)⟩, fok I1, q⟩
theorem walk_enumT {K : PySem.W.Frag} {a : Addr} {xs : List V} : Walk (IteT K a) xs.length (fun H => SqT K H a xs) (YPair (fun i => some (.int (i : Nat))) (fun i => xs[i]?)) := by
  refine ⟨fun i H hi h => ⟨xs, xs[i], h, List.getElem?_eq_getElem hi⟩, fun H h => ⟨xs, h, Nat.le_refl _⟩, fun i H x H' hi h y => ?_⟩
  obtain ⟨T, z, e1, e2, e3, e4⟩ := y
  exact ⟨T, .int (i : Nat), z, e1, e2, e3, rfl, e4 xs h⟩
end AT

set_option maxHeartbeats 4000000
namespace AT
open PySem PySem.Spec PyProof.Rows L2
/-! ### lists and tuples alike -/
def rIxQ (K : PySem.W.Frag) : R2 := fun x y H Q => ∃ p xs i v, x = .ref p ∧ y = .int i ∧ (SqL K H p xs ∨ SqT K H p xs) ∧ atI xs i = some v ∧ Q v H
theorem ix_sq {X : Cx} : IxR X (rIxQ X.K) := by
  intro value slice pins s σ H x y v u Q I rx ry h hs
  obtain ⟨p, xs, i, z, e1, e2, hq | hq, he, q⟩ := h
  · exact ix_list value slice pins s σ H x y v u Q I rx ry ⟨p, xs, i, z, e1, e2, hq, he, q⟩ hs
  · exact ix_tup value slice pins s σ H x y v u Q I rx ry ⟨p, xs, i, z, e1, e2, hq, he, q⟩ hs
/-- enumerate(..) of either -/
theorem en_walk {K : PySem.W.Frag} {H : Hp} {a : Addr} {xs : List V} {J : It} (h : EnOf K H a xs J) : ∃ G : Hp → Prop, Walk J xs.length G (YPair (fun i => some (.int (i : Nat))) (fun i => xs[i]?)) ∧ ∀ H', H' a = H a → G H' := by
  rcases h with ⟨h, rfl⟩ | ⟨h, rfl⟩
  · refine ⟨_, walk_enum, fun H' e => ?_⟩
    rcases h with (h | ⟨o, h⟩) | h
    · exact .inl (.inl (e.trans h))
    · exact .inl (.inr ⟨o, e.trans h⟩)
    · exact .inr h
  · refine ⟨_, walk_enumT, fun H' e => ?_⟩
    rcases h with (h | ⟨o, h⟩) | h
    · exact .inl (.inl (e.trans h))
    · exact .inl (.inr ⟨o, e.trans h⟩)
    · exact .inr h
end AT

set_option maxHeartbeats 4000000
namespace AT
open PySem PySem.Spec PyProof.Rows L2
theorem Same.sql {K : PySem.W.Frag} {H H' : Hp} {a : Addr} {xs : List V} (e : Same H H') (h : SqL K H a xs) : SqL K H' a xs := by
  rcases h with (h | ⟨o, h⟩) | h
  · exact .inl (.inl (e _ _ h))
  · exact .inl (.inr ⟨o, e _ _ h⟩)
  · exact .inr h
def SqB (K : PySem.W.Frag) (H : Hp) (a : Addr) (xs : List V) : Bool → Prop
  | true => SqL K H a xs
  | false => SqT K H a xs
def mkS (xs : List V) : Bool → HO
  | true => .lst xs
  | false => .tup xs
theorem SqB.of {K : PySem.W.Frag} {H : Hp} {a : Addr} {xs : List V} {b : Bool} (h : H a = some (mkS xs b)) : SqB K H a xs b := by
  cases b with
  | true => exact SqL.of h
  | false => exact SqT.of h
theorem SqB.or {K : PySem.W.Frag} {H : Hp} {a : Addr} {xs : List V} {b : Bool} (h : SqB K H a xs b) : SqL K H a xs ∨ SqT K H a xs := by
  cases b with
  | true => exact .inl h
  | false => exact .inr h
/-- a slice of a list (a new list) or a tuple (a new tuple, if it is not all of it) -/
def rSlQ (K : PySem.W.Frag) : V → Option Int → Option Int → Hp → VK → Prop := fun x lo hi H Q => ∃ a xs b, x = .ref a ∧ SqB K H a xs b ∧ (b = false → ¬ (HT.sIx xs.length 0 lo = 0 ∧ HT.sIx xs.length xs.length hi = xs.length)) ∧ ∀ p, H p = none → Q (.ref p) (upd H p (mkS (cutV xs lo hi) b))
theorem sl_sq {X : Cx} : SlR X (rSlQ X.K) := by
  intro pins s σ H x v vl vu lo hi sl Q I rx hs pl pu h
  obtain ⟨a, xs, b, e, hq, hw, q⟩ := h
  cases b with
  | true => exact sl_list pins s σ H x v vl vu lo hi sl Q I rx hs pl pu ⟨a, xs, e, hq, q⟩
  | false => exact sl_tup pins s σ H x v vl vu lo hi sl Q I rx hs pl pu ⟨a, xs, e, hq, hw rfl, q⟩
theorem walk_zipT {K : PySem.W.Frag} {a b : Addr} {xs ys : List V} {n : Nat} (hn : n = min xs.length ys.length) : Walk (RZ.ItzT K a b) n (fun H => SqT K H a xs ∧ SqT K H b ys) (YPair (fun i => xs[i]?) (fun i => ys[i]?)) := by
  subst hn
  refine ⟨fun i H hi h => ⟨xs, ys, _, _, h.1, h.2, List.getElem?_eq_getElem (by omega), List.getElem?_eq_getElem (by omega)⟩, fun H h => ⟨xs, ys, h.1, h.2, by omega⟩, fun i H v H' hi h y => ?_⟩
  obtain ⟨T, x, z, e1, e2, e3, e4, e5⟩ := y
  exact ⟨T, x, z, e1, e2, e3, e4 xs h.1, e5 ys h.2⟩
end AT

set_option maxHeartbeats 4000000
namespace AT
open PySem PySem.Spec PyProof.Rows L2
/-! ### isinstance(e, c) where e has fields -/
section
variable {prog : Program} {w : World} {A : Around} {E : Value → Shared → Prop} {t : Shared} {K : PySem.W.Frag} {p D : Addr} {oo od : Obj}
theorem cls_of {R : Option Value → Shared → Prop} (C : ExcC K D) (KI : K.In t.heap) (J : PySem.W.InstAt t.heap p oo D (some od)) (go : R (some (.ref D)) { t with toks := t.toks + 1 }) : wpAny (model prog w) A (getAttr? (.ref p) "__class__") R E t := by
  have fo : PySem.W.findObj K D (some od) "__class__" = some (.bind (.builtin "getset_descriptor.__get__") (.builtin "object.__class__")) := PySem.W.findObj_data (by obtain ⟨cd, z, _⟩ := PySem.W.any_some C.hd; rw [z]; rfl) C.ha C.hn C.ht
  obtain ⟨g0, g1, g2, g3, g4⟩ := t
  have k0 := J.type (M := model prog w)
  have k1 := PySem.W.looks_findIn (M := model prog w) KI C.hg
  have k2 := PySem.W.looks_findIn (M := model prog w) KI C.hk
  have k3 := PySem.W.looks_find (M := model prog w) KI J fo
  have k4 : PySem.W.Looks (model prog w) g0 (isInstance (.ref p) (.type "BaseException")) true := k0.andThen (PySem.W.looks_subIn KI C.hs)
  have z0 : (false && onTheHeap (Value.builtin "BaseException.__getattribute__")) = false := rfl
  have z1 : (Value.builtin "BaseException.__getattribute__" == Value.builtin "object.__getattribute__") = false := by decide +kernel
  have z2 : (onTheHeap (Value.ref D) && Value.builtin "BaseException.__getattribute__" == Value.builtin "object.__getattribute__") = false := by rw [z1]; rfl
  unfold getAttr? getAttrBy? getAttrBy
  refine wpAny_bind (wpAny_mkText (wpAny_bind (wpAny_attempt (wpAny_holding (wpAny_bind (k0.at (wpAny_bind (k1.at ?_))))))))
  show wpAny _ _ (if (onTheHeap (Value.ref D) && Value.builtin "BaseException.__getattribute__" == Value.builtin "object.__getattribute__") = true then _ else _) _ _ ⟨_, _, _, _, _⟩
  rw [z2, if_neg Bool.false_ne_true]
  unfold getAttrByItsOwn hookBefore
  refine wpAny_bind ?_
  rw [if_pos (show onTheHeap (Value.ref D) = true from rfl)]
  refine k2.at (wpAny_bind (wpAny_attempt (wpAny_holding ?_)))
  unfold callGetattribute
  rw [z0, if_neg Bool.false_ne_true]
  unfold boundAndCalled
  rw [PySem.F.excAttr_ValueError.ga.bind (.ref p)]
  refine wpAny_bind (wpAny_pure ?_)
  show wpAny _ _ (call (.builtin "BaseException.__getattribute__") [.ref p, .str "__class__" g3]) _ _ _
  refine wpAny_call (codeAny_call_builtin PySem.F.excAttr_ValueError.ga.plain PySem.F.entry_bexc_ga ?_)
  refine @PySem.W.check_slot (model prog w) _ _ ⟨g0, g1, g2, g3 + 1, g4⟩ "BaseException.__getattribute__" "BaseException" "__getattribute__" (.ref p) [.str "__class__" g3] [] _ (by decide +kernel) (by decide +kernel) k4 (PySem.F.args_bexc_ga (.ref p) (.str "__class__" g3)) ?_
  unfold Builtin.«object.__getattribute__»
  refine wpAny_bind (wpAny_of_eq (a := ((Value.ref p : Value), [Value.str "__class__" g3])) (by first | rfl | (simp only [slotArgs]; rfl)) ?_)
  refine wpAny_bind (wpAny_pure (wpAny_bind (k0.at (wpAny_bind (k3.at ?_)))))
  show wpAny _ _ (holding [Value.builtin "object.__class__"] (call (.builtin "getset_descriptor.__get__") [.builtin "object.__class__", .ref p, .ref D]) >>= fun z => ret z) _ _ _
  refine wpAny_bind (wpAny_holding (wpAny_call (PySem.W.class_get (s := ⟨g0, g1, g2, g3 + 1, g4⟩) (ox := oo) (od := some od) KI J C.hm ?_)))
  refine wpAny_pure ?_
  show wpAny _ _ (handedOut (.ref D)) _ _ ⟨_, _, _, _, _⟩
  rw [PySem.W.handedOut_of (v := .ref D) rfl]
  exact wpAny_pure (wpAny_pure go)
theorem kitx_of (C : ExcC K D) : PySem.W.KitX K (.ref p) (.ref D) (fun h => PySem.W.InstAt h p oo D (some od)) where
  ty := fun _ _ _ J => J.type
  it := fun _ _ KI _ => by
    obtain ⟨cd, z, _⟩ := PySem.W.any_some C.hd
    unfold PySem.W.clsIn at z
    split at z
    · rename_i c1 d1 cd1 sl1 e1
      intro A1 Q1 E1 s1 k q
      unfold isType loadHead
      exact wpAny_bind (wpAny_loadPart (k _ _ (KI _ _ e1)) (wpAny_pure q))
    · cases z
  ne := fun h tp dd its n sl KI e2 => by
    obtain ⟨cd, z, _⟩ := PySem.W.any_some C.hd
    refine Bool.eq_false_iff.mpr fun q => ?_
    have e : D = tp := Value.ref.inj (beq_iff_eq.mp q)
    subst e
    unfold PySem.W.clsIn at z
    split at z
    · rename_i c1 d1 cd1 sl1 e1
      have y := (KI _ _ e1).symm.trans e2
      cases y
    · cases z
  ca := fun KI J k => cls_of C KI J k
end
/-- isinstance(e, c), e the exception that the suite holds, its fields at d -/
def rIsX (K : PySem.W.Frag) (D a d : Addr) : List V → Hp → VK → Prop := fun xs H Q => ∃ (c : V) (cv : Value) (b : Bool) (fs : List (Str × V)), xs = [.ref a, c] ∧ ClsV c cv ∧ PySem.W.kitOne K (.ref D) cv = some b ∧ H d = some (.xd fs) ∧ Q (.bl b) H
theorem call_isX {X : Cx} {a D d : Addr} {oe : Obj} {cls : Value} {dd : Option Addr} {pn : List (Addr × Obj)} (C : ExcC X.K D) (hz : Zc cls dd oe) (hf : ∃ vs, oe.data = .fields vs) : CallR (X.suite a ((a, oe) :: pn)) (.builtin "isinstance") (fun xs H Q => cls = .ref D ∧ ∃ d, dd = some d ∧ rIsX X.K D a d xs H Q) := by
  intro pins s σ H xs us Q I r h
  obtain ⟨rfl, d, rfl, c, cv, b, fs, rfl, hcv, e, hd, q⟩ := h
  obtain ⟨u1, u2, rfl, r1, r2⟩ : ∃ u1 u2, us = [u1, u2] ∧ RelV (.ref a) u1 ∧ RelV c u2 := by
    cases r with
    | cons rx rr =>
      cases rr with
      | cons rt rr =>
        cases rr
        exact ⟨_, _, rfl, rx, rt⟩
  cases r1
  have ec : u2 = cv := by
    cases hcv <;> (cases r2; rfl)
  subst ec
  obtain ⟨ha, _⟩ := I.pin (a, oe) (List.mem_append.mpr (.inl List.mem_cons_self))
  obtain ⟨vs, hv⟩ := hf
  obtain ⟨mA, hns, hr⟩ := (show ObjOk X.prog X.w H s.heap d (.xd fs) from I.hok d _ hd)
  obtain ⟨od, ho, hl⟩ := lookIn_ns hns
  have J : PySem.W.InstAt s.heap a oe D (some od) := ⟨ha, hz.1, by unfold PySem.W.notCls; rw [hv] <;> rfl, by rw [hz.2]; exact ho⟩
  exact PySem.W.kia_one (kitx_of C) I.kIn J e (fun z => nomatch z) fun tk => ⟨.bl b, H, I.kept (t' := tk) fun _ _ z => z, rfl, q⟩
def excsB (x : Str) (K : PySem.W.Frag) : Bool :=
  He.eqO (PySem.W.findIn K (.ref (He.ga K x)) "__getattribute__") (some (some (.builtin "BaseException.__getattribute__"))) && (He.eqO (PySem.W.findIn K (.ref (He.ga K x)) "__getattr__") (some none) && (decide (PySem.W.subIn K (.ref (He.ga K x)) (.type "BaseException") = some true) && (PySem.W.hasDictIn K (He.ga K x) &&
    (He.eqO (PySem.W.findIn K (.ref (He.ga K x)) "__class__") (some (some (.builtin "object.__class__"))) && (He.eqO (PySem.W.specialIn K (.builtin "object.__class__") "__get__") (some (some (.builtin "getset_descriptor.__get__"))) && (decide (PySem.W.takesIn K (.builtin "object.__class__") = some true) && decide (PySem.W.mroIn K (He.ga K x) (.type "object") = some true)))))))
theorem excs_ok {x : Str} {K : PySem.W.Frag} (h : excsB x K = true) : ExcC K (He.ga K x) := by
  unfold excsB at h
  simp only [Bool.and_eq_true] at h
  obtain ⟨h1, h2, h3, h4, h5, h6, h7, h8⟩ := h
  exact ⟨He.eqO_ok h1, He.eqO_ok h2, of_decide_eq_true h3, h4, He.eqO_ok h5, He.eqO_ok h6, of_decide_eq_true h7, of_decide_eq_true h8⟩
end AT

set_option maxHeartbeats 4000000
namespace AT
open PySem PySem.Spec PyProof.Rows L2
/-! ### C(..) in a try's body -/
section
variable {X : Cx} {k : Nat} {f C : Addr} {ps : List Str} {sp : Sp} {x : Str} {p pos : Pos} {e : Expr} {es : List Expr} {t : TA}
theorem make_at {fd : FuncData} {E : XK} {pins : List (Addr × Obj)} {σ : L2.St} {H : Hp} {s : Shared} {Q : VK} {us : List Value} {vs : List V} (M : Mk X.K C f) (F : FnOk X.prog X.w X.K X.mg X.base (L2.CX X.prog X.w) k f fd ps sp) (hr : Room (k + 1) X.A) (hb : Binds X.K fd ps [])
    (hx : PassesAt (L2.CX X.prog X.w) X σ E) (I : Inv X pins σ H s) (r : Vals vs us) (go : ∀ q d, H q = none → H d = none → d ≠ q → sp (.ref q :: vs) (upd (upd H d (.own q)) q (.ins C d [])) (fun v H2 => v = .non ∧ Q (.ref q) H2) E) : wpAny (model X.prog X.w) X.A (call (.ref C) us) (EP X pins σ Q) X.xe s := by
  have g := go (s.heap.objs.size + 1) s.heap.objs.size (I.hok.fresh (Nat.le_succ _)) (I.hok.fresh (Nat.le_refl _)) (Nat.ne_of_lt (Nat.lt_succ_self _))
  have J := Inv.made (C := C) I
  have rr : Vals (V.ref (s.heap.objs.size + 1) :: vs) (Value.ref (s.heap.objs.size + 1) :: us) := .cons rfl r
  have ln : (Value.ref (s.heap.objs.size + 1) :: us).length = ps.length := by
    have z := rr.length
    rw [F.len _ _ _ _ g] at z
    exact z.symm
  have bd := hb _ (Value.ref (s.heap.objs.size + 1) :: us) J.kIn (by simpa using ln)
  rw [List.append_nil] at bd
  refine wpAny_call (make_map (f := f) I.kIn M.makes M.init (beq_iff_eq.mp M.fn) (codeAny_mono (F.run _ X.stack _ _ ⟨Value.ref (s.heap.objs.size + 1) :: us, []⟩ _ _ _ E (hr.make C us []) (J.env0.make C us []) bd rr g) fun res s' hq => ?_))
  cases res with
  | error er => exact hx pins _ _ er s' J hq
  | ok fl =>
    cases fl with
    | ret u =>
      obtain ⟨v, H', J', rv, ev, q⟩ := J.after hq
      subst ev
      exact ⟨rv, ⟨V.ref (s.heap.objs.size + 1), H', J', rfl, q⟩⟩
    | _ => exact False.elim hq
def tMakeS (C : Addr) (sp : Sp) (E : L2.St → XK) (t : TA) : TE := fun σ H Q => t σ H fun vs H1 => ∀ q d, H1 q = none → H1 d = none → d ≠ q → sp (.ref q :: vs) (upd (upd H1 d (.own q)) q (.ins C d [])) (fun v H2 => v = .non ∧ Q (.ref q) H2) (E σ)
theorem ok_makeS {W : WX} (M : Mk X.K C f) (F : Ok X.prog X.w X.K X.mg X.base k f ps sp) (hr : Room (k + 1) X.A) (hg : Gl X x) (hm : X.mg x = some (.ref C)) (tk : Takes X W) (ha : PA X (e :: es) t)
    (hdb : (x == ("__debug__" : Str)) = false := by decide) (hst : starEach (e :: es) X.env = (false, eval e X.env) :: starEach es X.env := by rfl) (hns : (backTo pos (starEach es X.env)).any (·.1) = false := by rfl) :
    PE X (.Call (.Name x p) (e :: es) [] pos) (tMakeS C sp (fun σ cls d H => W cls d σ H) t) := by
  obtain ⟨fd, F1, b, kp⟩ := F
  constructor
  intro pins s σ H Q I h
  refine wpAny_Call_Name_kw (ld_glob I hg hm ?_ hdb)
  refine PySem.W.callWith_K (h₀ := X.base) I.ok.mod.kin M.kp (thn (ha.run pos pins s σ H _ I h) fun us s1 z => ?_) hst hns
  obtain ⟨vs, H1, I1, r, q⟩ := z
  exact ⟨I1.kIn, make_at M F1 hr b (passAt tk σ) I1 r q⟩
end
end AT

set_option maxHeartbeats 4000000
namespace AT
open PySem PySem.Spec PyProof.Rows L2
/-- lists of unlike lengths -/
def rNeL (K : PySem.W.Frag) : R2 := fun x y H Q => ∃ a b xs ys, x = .ref a ∧ y = .ref b ∧ SqL K H a xs ∧ SqL K H b ys ∧ xs.length ≠ ys.length ∧ Q (.bl true) H
theorem op_neL {X : Cx} (hu : X.A.units + 64 < cLine) : OpR X (compareOp .NotEq) (rNeL X.K) := by
  intro pins s σ H x y v u Q I rx ry h
  obtain ⟨a, b, xs, ys, rfl, rfl, ha, hb, hn, q⟩ := h
  cases rx
  cases ry
  obtain ⟨its, rv, pl, _⟩ := I.list ha
  obtain ⟨jts, rw, ql, _⟩ := I.list hb
  refine (SeqAt.RcNeAt.lists_lengths pl.isList ql.isList ?_ (by omega)) X.prog X.w X.xe _ ⟨.bl true, H, I, rfl, q⟩
  rw [List.size_toArray, List.size_toArray, ← rv.length, ← rw.length]
  simpa using hn
end AT

set_option maxHeartbeats 4000000
namespace AT
open PySem PySem.Spec PyProof.Rows L2
section
variable {X : Cx}
/-- a list that is not itself -/
def rNeLS (K : PySem.W.Frag) : R2 := fun x y H Q => ∃ a xs, x = .ref a ∧ y = .ref a ∧ SqL K H a xs ∧ Q (.bl false) H
theorem op_neLS (hu : X.A.units + 64 < cLine) : OpR X (compareOp .NotEq) (rNeLS X.K) := by
  intro pins s σ H x y v u Q I rx ry h
  obtain ⟨a, xs, rfl, rfl, ha, q⟩ := h
  cases rx
  cases ry
  obtain ⟨its, rv, pl, _⟩ := I.list ha
  refine (SeqAt.RcNeAt.lists (e := fun _ => true) pl.isList pl.isList rfl (by omega) (fun j _ _ => SeqAt.EqAt.same _)) X.prog X.w X.xe _ ?_
  exact ⟨.bl false, H, I, (by show _ = _; simp), q⟩
/-- b is not c, two truths -/
def rNtB : R2 := fun x y H Q => ∃ b c, x = .bl b ∧ y = .bl c ∧ Q (.bl (b != c)) H
theorem op_ntB : OpR X (compareOp .IsNot) rNtB := by
  intro pins s σ H x y v u Q I rx ry h
  obtain ⟨b, c, rfl, rfl, q⟩ := h
  cases rx
  cases ry
  exact isnot_bool ⟨.bl _, H, I, rfl, q⟩
end
end AT

set_option maxHeartbeats 4000000
namespace AT
open PySem PySem.Spec PyProof.Rows L2
section
open MeetsSeq MeetsSeq2 MeetsSeq3 SeqRoads2
open AutoSeq1 (wpAny_loadPart')
variable {prog : Program} {w : World} {A : Around}
/-- == of two tuples whose items are compared one by one, each comparison keeping J -/
theorem tupc_body {R : Result → Shared → Prop} {p q : Addr} {us vs : Array Value} {m1 m2 : Nat} {d1 d2 : Option Addr} {sl1 sl2 : Array (Option Value)} {e : Nat → Bool} {J : Shared → Prop} {t : Shared}
    (step : ∀ j (g1 : j < us.size) (g2 : j < vs.size) t, J t → wpAny (model prog w) A.in1 (eqBool us[j] vs[j]) (fun c t' => c = e j ∧ J t') (fun er t' => R (.error er) t') t)
    (done : ∀ t, J t → R (.ok (.ret (.bool ((List.range (min us.size vs.size)).all e && us.size == vs.size)))) t)
    (hp : t.heap.get? p = some { cls := .type "tuple", dict := d1, data := .seq us m1, slots := sl1 }) (hq : t.heap.get? q = some { cls := .type "tuple", dict := d2, data := .seq vs m2, slots := sl2 }) (h0 : J t) :
    wpAny (model prog w) A.in1 (Builtin.«tuple.__eq__» ⟨[.ref p, .ref q], []⟩) (GQ.FinOf prog w A R) (fun er t' => R (.error er) t') t := by
  have sb := AutoSeq1.sub_tuple_tuple
  have hZ : (us.toList.zip vs.toList).length = min us.size vs.size := by simp
  have keep := h0
  obtain ⟨x1, x2, x3, x4, x5⟩ := t
  wp_walk using wpAny_loadPart' hp, wpAny_loadPart' hq, wpAny_forIn_list _ (fun rest b t' => b.1 = none ∧ ∃ j, rest = (us.toList.zip vs.toList).drop j ∧ J t' ∧ (((List.range (min us.size vs.size)).take j).all e = true)) _
  case turn =>
    rintro ⟨y, x⟩ rest b t' ⟨hb, j, hz, hJ, hall⟩
    have hlt : j < (us.toList.zip vs.toList).length := by
      by_cases c : j < (us.toList.zip vs.toList).length
      · exact c
      · rw [List.drop_of_length_le (by omega)] at hz; cases hz
    have hm : j < min us.size vs.size := by omega
    have g1 : j < us.size := by omega
    have g2 : j < vs.size := by omega
    rw [List.drop_eq_getElem_cons hlt] at hz
    obtain ⟨e1, hrest⟩ := List.cons.inj hz
    have ey : y = us[j] := by simpa using congrArg Prod.fst e1
    have ex : x = vs[j] := by simpa using congrArg Prod.snd e1
    subst ey ex
    refine wpAny_bind (wpAny_mono (step j g1 g2 t' hJ) (fun c t2 z => ?_) fun _ _ z => z)
    obtain ⟨rfl, hJ2⟩ := z
    have hd : (List.range (min us.size vs.size)) = (List.range (min us.size vs.size)).take j ++ j :: (List.range (min us.size vs.size)).drop (j + 1) := by
      have h1 := (List.take_append_drop j (List.range (min us.size vs.size))).symm
      rw [List.drop_eq_getElem_cons (by simpa using hm)] at h1
      simpa using h1
    cases hc : e j with
    | true =>
      wp_walk
      refine ⟨rfl, j + 1, hrest, hJ2, ?_⟩
      rw [List.take_succ, List.all_append, hall, Bool.true_and]
      simp [hm, hc]
    | false =>
      have fin := done _ hJ2
      rw [hd, List.all_append, List.all_cons, hc] at fin
      wp_walk
      first | exact ⟨_, rfl, by simpa using fin⟩ | simpa using fin
  case fin =>
    rintro ⟨b1, b2⟩ t' ⟨hb, j, hz, hJ, hall⟩
    simp only at hb
    subst hb
    have hge : min us.size vs.size ≤ j := by
      by_cases c : j < (us.toList.zip vs.toList).length
      · rw [List.drop_eq_getElem_cons c] at hz; cases hz
      · omega
    have fin := done _ hJ
    rw [List.take_of_length_le (by simpa using hge)] at hall
    rw [hall, Bool.true_and] at fin
    wp_walk
    first | exact ⟨_, rfl, by simpa [Builtin.Tuple.tupleCompareSizes] using fin⟩ | simpa [Builtin.Tuple.tupleCompareSizes] using fin
  case h => exact ⟨rfl, 0, rfl, keep, by simp⟩
theorem tupc {E : Value → Shared → Prop} {Q : Value → Shared → Prop} {p q : Addr} {us vs : Array Value} {e : Nat → Bool} {J : Shared → Prop} {t : Shared} (hu : A.units < cLine) (hp : t.heap.IsTuple p us) (hq : t.heap.IsTuple q vs)
    (step : ∀ j (g1 : j < us.size) (g2 : j < vs.size) t, J t → wpAny (model prog w) A.in1 (eqBool us[j] vs[j]) (fun c t' => c = e j ∧ J t') E t)
    (done : ∀ t, J t → Q (.bool ((List.range (min us.size vs.size)).all e && us.size == vs.size)) t) (h0 : J t) : wpAny (model prog w) A (richCompare .Eq (.ref p) (.ref q)) Q E t := by
  obtain ⟨⟨c1, d1, t1, sl1⟩, g1, k1, m1, z1⟩ := id hp
  obtain ⟨⟨c2, d2, t2, sl2⟩, g2, k2, m2, z2⟩ := id hq
  simp only at k1 z1 k2 z2
  subst k1 z1 k2 z2
  refine wpAny_richCompare_same_room (op := .Eq) ⟨_, g1, rfl⟩ ⟨_, g2, rfl⟩ F.slot_tuple_eq (GQ.call_here F.slot_tuple_eq ⟨_, g1, rfl⟩ F.entry_tuple_eq (F.args_tuple_eq_2 _ _) ?_) hu
  exact tupc_body (R := wants (fun v t' => v ≠ .notImplemented ∧ Q v t') E) step (fun t' z => ⟨(fun x => nomatch x), done t' z⟩) g1 g2 h0
end
/-! ### == of nested tuples with instances of own classes, both answers; the abstract heap stays -/
abbrev Cmp := V → V → Hp → Bool → Prop
def EqB (X : Cx) (n : Nat) (D : Cmp) : Prop := ∀ (A : Around) (pins : List (Addr × Obj)) (s : Shared) (σ : L2.St) (H : Hp) (x y : V) (u v : Value) (b : Bool), Sub X n A → Inv X pins σ H s → RelV x u → RelV y v → D x y H b →
  wpAny (model X.prog X.w) A (eqBool u v) (fun r s' => r = b ∧ Inv X pins σ H s') X.xe s
def RcB (X : Cx) (n : Nat) (D : Cmp) : Prop := ∀ (A : Around) (pins : List (Addr × Obj)) (s : Shared) (σ : L2.St) (H : Hp) (x y : V) (u v : Value) (b : Bool), Sub X n A → Inv X pins σ H s → RelV x u → RelV y v → D x y H b →
  wpAny (model X.prog X.w) A (richCompare .Eq u v) (fun r s' => r = .bool b ∧ Inv X pins σ H s') X.xe s
section
variable {X : Cx} {n : Nat} {D : Cmp}
/-- the items, pair by pair -/
def Each (D : Cmp) (xs ys : List V) (H : Hp) (e : Nat → Bool) : Prop := ∀ (i : Nat) x y, xs[i]? = some x → ys[i]? = some y → D x y H (e i)
def CTup (K : PySem.W.Frag) (D : Cmp) : Cmp := fun x y H b => ∃ p q xs ys e, x = .ref p ∧ y = .ref q ∧ SqT K H p xs ∧ SqT K H q ys ∧ Each D xs ys H e ∧ b = ((List.range (min xs.length ys.length)).all e && xs.length == ys.length)
theorem rcB_tup (h : EqB X n D) : RcB X (n + 1) (CTup X.K D) := by
  intro A pins s σ H x y u v b sb I rx ry d
  obtain ⟨p, q, xs, ys, e, rfl, rfl, hp, hq, he, rfl⟩ := d
  cases rx
  cases ry
  obtain ⟨us, r1, t1, _⟩ := I.tuple hp
  obtain ⟨vs, r2, t2, _⟩ := I.tuple hq
  refine tupc (e := e) (J := fun t => Inv X pins σ H t) sb.room.units0 t1 t2 (fun j g1 g2 t It => ?_) (fun t It => ⟨?_, It⟩) I
  · rw [List.size_toArray] at g1 g2
    have k1 : j < xs.length := by rw [r1.length]; exact g1
    have k2 : j < ys.length := by rw [r2.length]; exact g2
    obtain ⟨u1, a1, b1⟩ := r1.get (List.getElem?_eq_getElem k1)
    obtain ⟨u2, a2, b2⟩ := r2.get (List.getElem?_eq_getElem k2)
    rw [List.getElem?_eq_getElem g1] at a1
    rw [List.getElem?_eq_getElem g2] at a2
    cases a1
    cases a2
    exact h A.in1 pins t σ H _ _ _ _ _ sb.in1 It b1 b2 (he j _ _ (List.getElem?_eq_getElem k1) (List.getElem?_eq_getElem k2))
  · rw [List.size_toArray, List.size_toArray, ← r1.length, ← r2.length]
/-- within a tuple the very same object is equal to itself -/
theorem RcB.eqB (h : RcB X n D) (hr : ∀ x y H b, D x y H b → ∃ p q, x = .ref p ∧ y = .ref q ∧ (p = q → b = true)) : EqB X n D := by
  intro A pins s σ H x y u v b sb I rx ry d
  obtain ⟨p, q, rfl, rfl, hb⟩ := hr _ _ _ _ d
  cases rx
  cases ry
  by_cases c : p = q
  · subst c
    rw [hb rfl]
    exact SeqAt.EqAt.same (A := A) (s := s) (.ref p) X.prog X.w X.xe _ ⟨rfl, I⟩
  · refine GQ.eqBool_refG c (wpAny_mono (h A pins s σ H (.ref p) (.ref q) _ _ b sb I rfl rfl d) (fun r s' z => ?_) fun _ _ z => z)
    exact ⟨b, z.1, rfl, z.2⟩
/-- instances of the class C, by its own __eq__ -/
def CIns (C : Addr) (R : Addr → Addr → Hp → Bool → Prop) : Cmp := fun x y H b => ∃ p q d1 d2 f1 f2, x = .ref p ∧ y = .ref q ∧ H p = some (.ins C d1 f1) ∧ H q = some (.ins C d2 f2) ∧ R p q H b
theorem rcB_ins {k : Nat} {C f : Addr} {ps : List Str} {sp : Sp} {E : XK} {R : Addr → Addr → Hp → Bool → Prop} (O : EqC X.K C f) (F : Ok X.prog X.w X.K X.mg X.base k f ps sp) (hx : Passes (L2.CX X.prog X.w) X E)
    (hsp : ∀ p q H b, R p q H b → sp [.ref p, .ref q] H (fun v H' => v = .bl b ∧ H' = H) E) : RcB X k (CIns C R) := by
  intro A pins s σ H x y u v b sb I rx ry d
  obtain ⟨p, q, d1, d2, f1, f2, rfl, rfl, hp, hq, hR⟩ := d
  obtain ⟨fd, F1, bd, kp⟩ := F
  cases rx
  cases ry
  obtain ⟨mA, J1, _⟩ := ins_get I.hok hp
  obtain ⟨mB, J2, _⟩ := ins_get I.hok hq
  obtain ⟨o1, J1, _⟩ := J1.look
  obtain ⟨o2, J2, _⟩ := J2.look
  obtain ⟨m, hF⟩ := I.fr
  refine PySem.W.cmp_K (op := .Eq) (tb := .ref C) sb.room.units0 hF I.ok.mod.kin J1 J2.type (by simp [PySem.W.notFirst]) O.find O.fn ?_
  refine wpAny_mono (run_in (us := [.ref p, .ref q]) (vs := [.ref p, .ref q]) sb.fr F1 sb.room bd hx I (.cons rfl (.cons rfl .nil)) (hsp p q H b hR)) (fun r s' z => ?_) fun _ _ z => z
  obtain ⟨x1, H1, I1, r1, rfl, rfl⟩ := z
  cases r1
  exact ⟨rfl, I1⟩
theorem eqB_ins {k : Nat} {C f : Addr} {ps : List Str} {sp : Sp} {E : XK} {R : Addr → Addr → Hp → Bool → Prop} (O : EqC X.K C f) (F : Ok X.prog X.w X.K X.mg X.base k f ps sp) (hx : Passes (L2.CX X.prog X.w) X E)
    (hsp : ∀ p q H b, R p q H b → sp [.ref p, .ref q] H (fun v H' => v = .bl b ∧ H' = H) E) (hs : ∀ p H b, R p p H b → b = true) : EqB X k (CIns C R) :=
  (rcB_ins O F hx hsp).eqB fun x y H b d => by
    obtain ⟨p, q, _, _, _, _, hx, hy, _, _, hR⟩ := d
    exact ⟨p, q, hx, hy, fun z => by subst z; exact hs p H b hR⟩
/-- x == y -/
def rEqB (D : Cmp) : R2 := fun x y H Q => ∃ b, D x y H b ∧ Q (.bl b) H
theorem op_eqB (h : RcB X n D) (hr : Room n X.A) : OpR X (compareOp .Eq) (rEqB D) := by
  intro pins s σ H x y v u Q I rx ry hq
  obtain ⟨b, d, q⟩ := hq
  show wpAny (model X.prog X.w) X.A (richCompare .Eq v u) (EP X pins σ Q) X.xe s
  refine wpAny_mono (h X.A pins s σ H x y v u b ⟨hr, rfl⟩ I rx ry d) (fun r s' z => ?_) fun _ _ z => z
  obtain ⟨rfl, I'⟩ := z
  exact ⟨.bl b, H, I', rfl, q⟩
end
end AT

set_option maxHeartbeats 4000000
namespace AT
open PySem PySem.Spec PyProof.Rows L2
/-! ### instances called, classes made with all defaults -/
def coB (x : Str) (K : PySem.W.Frag) : Bool := He.eqO (PySem.W.findIn K (.ref (He.ga K x)) "__call__") (some (some (.ref (He.ma K (He.ga K x) "__call__")))) && (PySem.W.isFn K (.ref (He.ma K (He.ga K x) "__call__")) && PySem.W.fnIn K (He.ma K (He.ga K x) "__call__"))
theorem co_ok {x : Str} {K : PySem.W.Frag} (h : coB x K = true) : StX.CallO K (He.ga K x) (He.ma K (He.ga K x) "__call__") := by
  unfold coB at h
  simp only [Bool.and_eq_true] at h
  exact ⟨He.eqO_ok h.1, h.2.1, h.2.2⟩
section
variable {X : Cx} {k : Nat} {f C g : Addr} {ps : List Str} {sp : Sp} {dvs : List V} {E : XK} {x : Str} {p pos : Pos} {e fe : Expr} {es : List Expr} {tf : TE} {t : TA}
theorem ok_callO (c : StX.CallO X.K C g) (F : Ok X.prog X.w X.K X.mg X.base k g ps sp) (hr : Room k X.A) (hx : Passes (L2.CX X.prog X.w) X E) (hf : PE X fe tf) (ha : PA X (e :: es) t)
    (ht : eval (.Call fe (e :: es) [] pos) X.env = (do callWith pos (← eval fe X.env) [] (backTo pos (starEach (e :: es) X.env)) (backToKw pos (keywordEach [] X.env))) := by rfl)
    (he : starEach (e :: es) X.env = (false, eval e X.env) :: starEach es X.env := by rfl) (hpl : (backTo pos (starEach es X.env)).any (·.1) = false := by rfl) : PE X (.Call fe (e :: es) [] pos) (StX.tCallO X C sp E tf t) := by
  obtain ⟨fd, F1, b, kp⟩ := F
  exact StX.pe_callO hf c ((FnOk.raw F1 b .nil).imp fun vs H Q E h => by rw [List.append_nil]; exact h) hr hx ha ht he hpl
theorem ok_makeD0 (M : Mk X.K C f) (F : OkD X.prog X.w X.K X.mg X.base k f ps dvs sp) (hr : Room (k + 1) X.A) (hg : Gl X x) (hm : X.mg x = some (.ref C)) (hx : Passes (L2.CX X.prog X.w) X E)
    (hdb : (x == ("__debug__" : Str)) = false := by decide) : PE X (.Call (.Name x p) [] [] pos) (tMake C sp dvs E tNil) := by
  obtain ⟨fd, ds, F1, vd, b, kp⟩ := F
  exact pe_make0 M F1 hr hg hm b vd hx hdb
end
/-! ### tuples within tuples -/
section
variable {X : Cx} {n : Nat} {D : Cmp}
def Refl (D : Cmp) : Prop := ∀ x H b, D x x H b → b = true
/-- tuples that stand in the heap -/
def CTuH (D : Cmp) : Cmp := fun x y H b => ∃ p q xs ys e, x = .ref p ∧ y = .ref q ∧ H p = some (.tup xs) ∧ H q = some (.tup ys) ∧ Each D xs ys H e ∧ b = ((List.range (min xs.length ys.length)).all e && xs.length == ys.length)
theorem CTuH.refl (h : Refl D) : Refl (CTuH D) := by
  rintro x H b ⟨p, q, xs, ys, e, rfl, e1, h1, h2, he, rfl⟩
  cases e1
  rw [h1] at h2
  cases h2
  simp only [Nat.min_self, beq_self_eq_true, Bool.and_true, List.all_eq_true, List.mem_range]
  intro i hi
  exact h _ _ _ (he i _ _ (List.getElem?_eq_getElem hi) (List.getElem?_eq_getElem hi))
theorem rcB_tuH (h : EqB X n D) : RcB X (n + 1) (CTuH D) := fun A pins s σ H x y u v b sb I rx ry d => by
  obtain ⟨p, q, xs, ys, e, h1, h2, h3, h4, h5, h6⟩ := d
  exact rcB_tup h A pins s σ H x y u v b sb I rx ry ⟨p, q, xs, ys, e, h1, h2, SqT.of h3, SqT.of h4, h5, h6⟩
theorem eqB_tuH (h : EqB X n D) (hs : Refl D) : EqB X (n + 1) (CTuH D) := (rcB_tuH h).eqB fun x y H b d => by
  obtain ⟨p, q, xs, ys, e, h1, h2, h3⟩ := id d
  refine ⟨p, q, h1, h2, fun z => ?_⟩
  subst z
  rw [h1, h2] at d
  exact CTuH.refl hs _ _ _ d
end
end AT

set_option maxHeartbeats 4000000
namespace AT
open PySem PySem.Spec PyProof.Rows L2
section
variable {X : Cx}
/-- a list compared with an empty one -/
def Emp (K : PySem.W.Frag) (x y : V) (H : Hp) (xs : List V) : Prop := ∃ a b, x = .ref a ∧ y = .ref b ∧ SqL K H a xs ∧ SqL K H b []
def rEqE (K : PySem.W.Frag) : R2 := fun x y H Q => ∃ xs, Emp K x y H xs ∧ Q (.bl xs.isEmpty) H
def rNeE (K : PySem.W.Frag) : R2 := fun x y H Q => ∃ xs, Emp K x y H xs ∧ Q (.bl (!xs.isEmpty)) H
theorem op_eqE (hu : X.A.units + 64 < cLine) : OpR X (compareOp .Eq) (rEqE X.K) := by
  intro pins s σ H x y v u Q I rx ry h
  obtain ⟨xs, ⟨a, b, rfl, rfl, ha, hb⟩, q⟩ := h
  cases rx
  cases ry
  obtain ⟨its, rv, pl, _⟩ := I.list ha
  obtain ⟨jts, rw, ql, _⟩ := I.list hb
  cases rw
  cases xs with
  | nil =>
    cases rv
    refine (SeqAt.RcAt.lists (e := fun _ => true) pl.isList ql.isList rfl (by omega) (fun j h _ => absurd h (by simp))) X.prog X.w X.xe _ ⟨.bl true, H, I, (by show _ = _; simp), q⟩
  | cons z zs =>
    cases rv with
    | cons r1 r2 => refine (SeqAt.RcAt.lists_lengths pl.isList ql.isList (by simp) (by omega)) X.prog X.w X.xe _ ⟨.bl false, H, I, rfl, q⟩
theorem op_neE (hu : X.A.units + 64 < cLine) : OpR X (compareOp .NotEq) (rNeE X.K) := by
  intro pins s σ H x y v u Q I rx ry h
  obtain ⟨xs, ⟨a, b, rfl, rfl, ha, hb⟩, q⟩ := h
  cases rx
  cases ry
  obtain ⟨its, rv, pl, _⟩ := I.list ha
  obtain ⟨jts, rw, ql, _⟩ := I.list hb
  cases rw
  cases xs with
  | nil =>
    cases rv
    refine (SeqAt.RcNeAt.lists (e := fun _ => true) pl.isList ql.isList rfl (by omega) (fun j h _ => absurd h (by simp))) X.prog X.w X.xe _ ⟨.bl false, H, I, (by show _ = _; simp), q⟩
  | cons z zs =>
    cases rv with
    | cons r1 r2 => refine (SeqAt.RcNeAt.lists_lengths pl.isList ql.isList (by simp) (by omega)) X.prog X.w X.xe _ ⟨.bl true, H, I, rfl, q⟩
end
end AT

set_option maxHeartbeats 4000000
namespace AT
open PySem L2
theorem cut_to (xs : List V) (k : Nat) : cutV xs none (some (k : Int)) = xs.take k := by
  unfold cutV
  rw [HT.sIx_nat, HT.sIx_none, List.drop_zero, Nat.sub_zero]
  by_cases h : k ≤ xs.length
  · rw [Nat.min_eq_left h]
  · rw [Nat.min_eq_right (by omega), List.take_length, List.take_of_length_le (by omega)]
theorem cut_from (xs : List V) (k : Nat) : cutV xs (some (k : Int)) none = xs.drop k := by
  unfold cutV
  rw [HT.sIx_nat, HT.sIx_none]
  by_cases h : k ≤ xs.length
  · rw [Nat.min_eq_left h]
    exact List.take_of_length_le (by simp)
  · rw [Nat.min_eq_right (by omega), List.drop_of_length_le (by omega), List.drop_of_length_le (by omega)]
    simp
theorem cut_last (xs : List V) : cutV xs (some (-1)) none = xs.drop (xs.length - 1) := by
  unfold cutV
  have e : HT.sIx xs.length 0 (some (-1)) = xs.length - 1 := by
    show (if (-1 : Int) < 0 then ((-1 : Int) + (xs.length : Int)).toNat else min (-1 : Int).toNat xs.length) = _
    rw [if_pos (by decide)]
    omega
  rw [e, HT.sIx_none]
  exact List.take_of_length_le (by simp)
end AT

set_option maxHeartbeats 4000000
namespace AT
open PySem PySem.Spec PyProof.Rows L2
/-- tuple(x), its question by the written part K -/
def rTupOf (K : PySem.W.Frag) : List V → Hp → VK → Prop := fun xs H Q => ∃ p ys, xs = [.ref p] ∧ ((SqL K H p ys ∧ ∀ l, H l = none → Q (.ref l) (upd H l (.tup ys))) ∨ (SqT K H p ys ∧ Q (.ref p) H))
theorem call_tupK {X : Cx} : CallR X (.type "tuple") (rTupOf X.K) := call_tuple_of
end AT

set_option maxHeartbeats 4000000
namespace AT
open PySem PySem.Spec PyProof.Rows L2
section
open MeetsSeq MeetsSeq2 MeetsSeq3 SeqRoads2
open AutoSeq1 (wpAny_loadPart')
variable {prog : Program} {w : World} {A : Around}
/-- x in a list, item by item, each comparison keeping J -/
theorem inc_loop {R : Result → Shared → Prop} {l : Addr} {us : Array Value} {x : Value} {e : Nat → Bool} {J : Shared → Prop}
    (read : ∀ t, J t → ∃ m, t.heap.get? l = some { cls := .type "list", data := .seq us m })
    (step : ∀ j (g : j < us.size) t, J t → wpAny (model prog w) A.in1 (eqBool us[j] x) (fun c t' => c = e j ∧ J t') (fun er t' => R (.error er) t') t)
    (done : ∀ t, J t → R (.ok (.ret (.bool ((List.range us.size).any e)))) t) : ∀ (d j : Nat), us.size - j = d → j ≤ us.size → (∀ i, i < j → e i = false) → ∀ t, J t →
      wpAny (model prog w) A.in1 (Builtin.«list.__contains__.loop» ⟨[.ref l, x, rawInt j], []⟩) (GQ.FinOf prog w A R) (fun er t' => R (.error er) t') t
  | 0, j, hd, hj, hlow, t, hJ => by
    obtain ⟨m, hl⟩ := read t hJ
    have fin := done t hJ
    have ej : j = us.size := by omega
    have none_ : (List.range us.size).any e = false := by
      rw [List.any_eq_false]
      intro i hi
      rw [hlow i (by rw [ej]; exact List.mem_range.mp hi)]
      decide
    rw [none_] at fin
    obtain ⟨x1, x2, x3, x4, x5⟩ := t
    wp_walk using wpAny_loadPart' hl
    have hi : us[((j : Nat) : Int).toNat]? = none := by simp; omega
    rw [hi]
    wp_walk
    exact fin
  | d + 1, j, hd, hj, hlow, t, hJ => by
    obtain ⟨m, hl⟩ := read t hJ
    have hlt : j < us.size := by omega
    have st := step j hlt t hJ
    obtain ⟨x1, x2, x3, x4, x5⟩ := t
    wp_walk using wpAny_loadPart' hl
    have hi : us[((j : Nat) : Int).toNat]? = some us[j] := by simp [hlt]
    have hc : ((j : Int) + 1) = ((j + 1 : Nat) : Int) := by omega
    rw [hi]
    refine wpAny_bind (wpAny_mono st (fun c t2 z => ?_) fun _ _ z => z)
    obtain ⟨rfl, hJ2⟩ := z
    cases ec : e j with
    | true =>
      have fin := done t2 hJ2
      have yes : (List.range us.size).any e = true := by
        rw [List.any_eq_true]
        exact ⟨j, List.mem_range.mpr hlt, ec⟩
      rw [yes] at fin
      obtain ⟨y1, y2, y3, y4, y5⟩ := t2
      wp_walk
      exact fin
    | false =>
      have rest := inc_loop read step done d (j + 1) (by omega) hlt (fun i hi => by
        by_cases c : i = j
        · rw [c]; exact ec
        · exact hlow i (by omega)) t2 hJ2
      obtain ⟨y1, y2, y3, y4, y5⟩ := t2
      wp_walk
      rw [hc]
      exact ⟨plainId_quiet plain_contains_loop _, codeAny_builtin entry_contains_loop (by
        rw [Around.under_plainId plain_contains_loop _]
        exact rest)⟩
theorem inc_call {Q : Value → Shared → Prop} {E : Value → Shared → Prop} {l : Addr} {us : Array Value} {x : Value} {e : Nat → Bool} {J : Shared → Prop} {t : Shared}
    (read : ∀ t, J t → ∃ m, t.heap.get? l = some { cls := .type "list", data := .seq us m })
    (step : ∀ j (g : j < us.size) t, J t → wpAny (model prog w) A.in1 (eqBool us[j] x) (fun c t' => c = e j ∧ J t') E t)
    (done : ∀ t, J t → Q (.bool ((List.range us.size).any e)) t) (h : J t) : wpAny (model prog w) A (call (.builtin "list.__contains__") [.ref l, x]) Q E t := by
  obtain ⟨m, hl⟩ := read t h
  refine GQ.call_here F.slot_list_contains ⟨_, hl, rfl⟩ F.entry_list_contains (F.args_list_contains_2 _ _) ?_
  have go := inc_loop (A := A) (R := wants Q E) (us := us) (e := e) (J := J) (x := x) (l := l) read step (fun t' z => done t' z) _ 0 rfl (Nat.zero_le _) (fun i hi => absurd hi (Nat.not_lt_zero _)) t h
  obtain ⟨x1, x2, x3, x4, x5⟩ := t
  wp_walk using wpAny_loadPart' hl
  exact ⟨plainId_quiet plain_contains_loop _, codeAny_builtin entry_contains_loop (by
    rw [Around.under_plainId plain_contains_loop _]
    exact go)⟩
end
section
variable {X : Cx} {n : Nat} {D : Cmp}
theorem refs_vals : ∀ {xs : List V} {us vs : List Value}, (∀ z ∈ xs, ∃ a, z = .ref a) → Vals xs us → Vals xs vs → us = vs
  | [], _, _, _, .nil, .nil => rfl
  | x :: xs, _, _, h, .cons r1 r2, .cons q1 q2 => by
    obtain ⟨a, rfl⟩ := h x (by simp)
    cases r1
    cases q1
    rw [refs_vals (fun z hz => h z (List.mem_cons_of_mem _ hz)) r2 q2]
/-- x not in xs, a list of objects with own == -/
def rNiB (D : Cmp) : R2 := fun x y H Q => ∃ l xs e, y = .ref l ∧ H l = some (.lst xs) ∧ (∀ z ∈ xs, ∃ a, z = .ref a) ∧ (∀ (i : Nat) z, xs[i]? = some z → D z x H (e i)) ∧ Q (.bl (!(List.range xs.length).any e)) H
theorem op_niB (h : EqB X n D) (hr : Room (n + 1) X.A) : OpR X (compareOp .NotIn) (rNiB D) := by
  intro pins s σ H x y v u Q I rx ry hq
  obtain ⟨l, xs, e, rfl, hl, hrf, hd, q⟩ := hq
  cases ry
  obtain ⟨hz, its, m, rv, ho⟩ := I.hok l _ hl
  show wpAny _ X.A (do return Value.bool (!(← contains (.ref l) v))) _ _ s
  refine wpAny_bind (wpAny_contains_slot ⟨_, ho, rfl⟩ F.slot_list_contains (wpAny_mono (inc_call (A := X.A) (us := its.toArray) (e := e) (J := fun t => Inv X pins σ H t) (Q := fun w t => ∃ b, w = Value.bool b ∧ Inv X pins σ H t ∧ b = (List.range xs.length).any e) (fun t It => ?_) (fun j g t It => ?_) (fun t It => ?_) I) (fun w t z => ?_) fun _ _ z => z))
  · obtain ⟨hz2, its2, m2, rv2, ho2⟩ := It.hok l _ hl
    rw [refs_vals hrf rv rv2]
    exact ⟨m2, ho2⟩
  · rw [List.size_toArray] at g
    have k1 : j < xs.length := by rw [rv.length]; exact g
    obtain ⟨u1, a1, r1⟩ := rv.get (List.getElem?_eq_getElem k1)
    rw [List.getElem?_eq_getElem g] at a1
    cases a1
    exact h X.A.in1 pins t σ H _ _ _ _ _ ⟨hr.in1, rfl⟩ It r1 rx (hd j _ (List.getElem?_eq_getElem k1))
  · exact ⟨_, rfl, It, by rw [List.size_toArray, ← rv.length]⟩
  · obtain ⟨b, rfl, It, rfl⟩ := z
    exact wpAny_truthy_bool (wpAny_pure ⟨.bl _, H, It, rfl, q⟩)
end
end AT

set_option maxHeartbeats 4000000
namespace AT
open PySem PySem.Spec PyProof.Rows L2
/-! ### methods and instances called in a try's body -/
section
variable {X : Cx} {k : Nat} {f C g : Addr} {ps : List Str} {sp : Sp} {x m : Str} {p pos apos : Pos} {e o fe : Expr} {es : List Expr} {ta tf : TE} {t : TA}
def tMethS (C : Addr) (m : Str) (sp : Sp) (E : L2.St → XK) (ta : TE) (t : TA) : TE := fun σ H Q => ta σ H fun x H1 => ∃ a dx fs, x = .ref a ∧ H1 a = some (.ins C dx fs) ∧ fs.lookup m = none ∧
  t σ H1 fun vs H2 => sp (x :: vs) H2 Q (E σ)
theorem ok_methS {W : WX} {pl : Sem Bool} (c : Cls X.K C) (hm : Meth X.K C m f) (F : Ok X.prog X.w X.K X.mg X.base k f ps sp) (hr : Room k X.A) (tk : Takes X W) (he : PE X o ta) (ha : PA X (e :: es) t)
    (hst : starEach (e :: es) X.env = (false, eval e X.env) :: starEach es X.env := by rfl) (hpl : (backTo pos (starEach es X.env)).any (·.1) = false := by rfl)
    (ht : eval (.Call (.Attribute o m apos) (e :: es) [] pos) X.env = (do
      let w0 ← eval o X.env
      standAt apos.atName
      let (g0, us0) ← holding [w0] (getMethod w0 m pl)
      callWith pos g0 us0 (backTo pos (starEach (e :: es) X.env)) (backToKw pos (keywordEach [] X.env))) := by rfl) :
    PE X (.Call (.Attribute o m apos) (e :: es) [] pos) (tMethS C m sp (fun σ cls d H => W cls d σ H) ta t) := by
  obtain ⟨fd, F1, b, kp⟩ := F
  refine ⟨fun pins s σ H Q I h => ?_⟩
  refine PySem.W.methodCall_KW (pl := pl) (thn (he.run pins s σ H _ I h) fun u s1 ⟨x, H1, I1, rx, a, dx, fs, ex, ea, l, q⟩ => ?_) ht
  subst ex
  obtain rfl : u = Value.ref a := rx
  refine getmeth_ok I1 ea c hm l ?_
  refine PySem.W.callWith_K (first := [.ref a]) (h₀ := X.base) I.ok.mod.kin hm.kp (thn (ha.run pos pins s1 σ H1 _ I1 q) fun us s2 ⟨vs, H2, I2, r, q2⟩ => ⟨I2.kIn, ?_⟩) hst hpl
  exact run_fnSD (us := .ref a :: us) (vs := .ref a :: vs) (dvs := []) (E := fun σ cls d H => W cls d σ H) F1 hr b .nil (passAt tk σ) I2 (.cons rfl r) (by rw [List.append_nil]; exact q2)
def tCallOS (C : Addr) (sp : Sp) (E : L2.St → XK) (tf : TE) (t : TA) : TE := fun σ H Q => tf σ H fun y H1 => ∃ a, y = V.ref a ∧ t σ H1 fun vs H2 => (∃ dx fs, H2 a = some (.ins C dx fs)) ∧ sp (V.ref a :: vs) H2 Q (E σ)
theorem ok_callOS {W : WX} (c : StX.CallO X.K C g) (F : Ok X.prog X.w X.K X.mg X.base k g ps sp) (hr : Room k X.A) (tk : Takes X W) (hf : PE X fe tf) (ha : PA X (e :: es) t)
    (ht : eval (.Call fe (e :: es) [] pos) X.env = (do callWith pos (← eval fe X.env) [] (backTo pos (starEach (e :: es) X.env)) (backToKw pos (keywordEach [] X.env))) := by rfl)
    (he : starEach (e :: es) X.env = (false, eval e X.env) :: starEach es X.env := by rfl) (hpl : (backTo pos (starEach es X.env)).any (·.1) = false := by rfl) : PE X (.Call fe (e :: es) [] pos) (tCallOS C sp (fun σ cls d H => W cls d σ H) tf t) := by
  obtain ⟨fd, F1, b, kp⟩ := F
  refine ⟨fun pins s σ H Q I h => ?_⟩
  refine Call_ (thn (hf.run pins s σ H _ I h) fun u s1 ⟨y, H1, I1, ry, a, ey, q⟩ => ?_) ht
  subst ey
  obtain rfl : u = Value.ref a := ry
  refine StX.callO_with (thn (ha.run pos pins s1 σ H1 _ I1 q) fun us s2 ⟨vs, H2, I2, r, hi, q2⟩ => ?_) he hpl
  obtain ⟨ox, od, J, hd⟩ := StX.insC_at I2 (.inr hi)
  refine ⟨⟨C, ox, od, J, hd⟩, wpAny_call (PySem.W.kco_code I2.kIn J hd c.at_ c.fn c.fi ?_)⟩
  have r2 : Vals (V.ref a :: vs) (Value.ref a :: us) := .cons rfl r
  have hl : (Value.ref a :: us).length = ps.length := by rw [← r2.length]; exact F1.len _ _ _ _ q2
  have bd := b s2 (Value.ref a :: us) I2.kIn (by simpa using hl)
  rw [List.append_nil] at bd
  refine codeAny_mono (F1.run X.A X.stack s2 H2 ⟨Value.ref a :: us, []⟩ (Value.ref a :: us) (V.ref a :: vs) Q _ hr I2.env0 bd r2 q2) fun r s' hq => ?_
  cases r with
  | error e => exact passAt tk σ pins H2 s2 e s' I2 hq
  | ok fl =>
    cases fl with
    | ret u => exact I2.after hq
    | next => exact False.elim hq
    | brk => exact False.elim hq
    | cont => exact False.elim hq
/-- an instance called, told without the context (for a comprehension's block) -/
def tCallI (C : Addr) (sp : Sp) (E : XK) (tf : TE) (t : TA) : TE := fun σ H Q => tf σ H fun y H1 => ∃ a, y = V.ref a ∧ t σ H1 fun vs H2 => (∃ dx fs, H2 a = some (.ins C dx fs)) ∧ sp (V.ref a :: vs) H2 Q E
theorem ok_callI {E : XK} (c : StX.CallO X.K C g) (F : Ok X.prog X.w X.K X.mg X.base k g ps sp) (hr : Room k X.A) (hx : Passes (L2.CX X.prog X.w) X E) (hf : PE X fe tf) (ha : PA X (e :: es) t)
    (ht : eval (.Call fe (e :: es) [] pos) X.env = (do callWith pos (← eval fe X.env) [] (backTo pos (starEach (e :: es) X.env)) (backToKw pos (keywordEach [] X.env))) := by rfl)
    (he : starEach (e :: es) X.env = (false, eval e X.env) :: starEach es X.env := by rfl) (hpl : (backTo pos (starEach es X.env)).any (·.1) = false := by rfl) : PE X (.Call fe (e :: es) [] pos) (tCallI C sp E tf t) := by
  obtain ⟨fd, F1, b, kp⟩ := F
  have FR := (FnOk.raw F1 b .nil).imp (sp' := sp) fun vs H Q E h => by rw [List.append_nil]; exact h
  refine ⟨fun pins s σ H Q I h => ?_⟩
  refine Call_ (thn (hf.run pins s σ H _ I h) fun u s1 ⟨y, H1, I1, ry, a, ey, q⟩ => ?_) ht
  subst ey
  obtain rfl : u = Value.ref a := ry
  refine StX.callO_with (thn (ha.run pos pins s1 σ H1 _ I1 q) fun us s2 ⟨vs, H2, I2, r, hi, q2⟩ => ?_) he hpl
  obtain ⟨ox, od, J, hd⟩ := StX.insC_at I2 (.inr hi)
  exact ⟨⟨C, ox, od, J, hd⟩, StX.run_callO c FR hr hx I2 (.inr hi) r q2⟩
end
end AT

set_option maxHeartbeats 4000000
namespace AT
open PySem PySem.Spec PyProof.Rows L2
section
open MeetsSeq MeetsSeq2 MeetsSeq3 SeqRoads2 GQ
open AutoSeq1 (wpAny_loadPart')
variable {prog : Program} {w : World} {A : Around} {R : Result → Shared → Prop} {E : Value → Shared → Prop} {s : Shared}
/-- != of two lists whose items are equal one by one -/
theorem ne_loopG (l b : Addr) (N : Nat) (I : Nat → Shared → Prop) (hl : ListI prog w A (fun e s' => R (.error e) s') l b N I)
    (fin : ∀ s, I N s → R (.ok (.ret (.bool false))) s) (k : Nat) :
    ∀ i : Nat, N - i = k → i ≤ N → ∀ s, I i s →
      wpAny (model prog w) A.in1 (Builtin.«list.__eq__.loop» ⟨[.ref l, .ref b, rawInt i, rawInt 3], []⟩) (FinOf prog w A R) (fun e s' => R (.error e) s') s := by
  induction k with
  | zero =>
    intro i hk hi s h
    obtain ⟨items, items2, n, n2, hl1, hb1, hs1, hs2, _⟩ := hl _ _ h
    have hi' : i = N := by omega
    have hR : R (.ok (.ret (.bool false))) s := fin s (hi' ▸ h)
    obtain ⟨hp, g, d, tk, os⟩ := s
    wp_walk using wpAny_loadPart' hl1, wpAny_loadPart' hb1
    have hi1 : items[((i : Nat) : Int).toNat]? = none := by simp; omega
    have hi2 : items2[((i : Nat) : Int).toNat]? = none := by simp; omega
    rw [hi1, hi2]
    wp_walk using wpAny_loadPart' hl1, wpAny_loadPart' hb1
    show R (.ok (.ret (.bool (items.size != items2.size)))) _
    rw [hs1, hs2]
    simpa using hR
  | succ k ih =>
    intro i hk hi s h
    obtain ⟨items, items2, n, n2, hl1, hb1, hs1, hs2, turn⟩ := hl _ _ h
    have hlt : i < items.size := by omega
    have hlt2 : i < items2.size := by omega
    have ht := turn hlt hlt2
    obtain ⟨hp, g, d, tk, os⟩ := s
    wp_walk using wpAny_loadPart' hl1, wpAny_loadPart' hb1
    have hi1 : items[((i : Nat) : Int).toNat]? = some items[i] := by simp [hlt]
    have hi2 : items2[((i : Nat) : Int).toNat]? = some items2[i] := by simp [hlt2]
    have hc : ((i : Int) + 1) = ((i + 1 : Nat) : Int) := by omega
    rw [hi1, hi2]
    refine wpAny_bind (wpAny_mono ht (fun r s2 h2 => ?_) fun _ _ x => x)
    obtain ⟨hr, h2⟩ := h2
    subst hr
    have hrec := ih (i + 1) (by omega) (by omega) s2 h2
    obtain ⟨hp2, g2, d2, tk2, os2⟩ := s2
    wp_walk
    rw [hc]
    exact ⟨plainId_quiet plain_eq_loop _, codeAny_builtin entry_eq_loop (by
      rw [Around.under_plainId plain_eq_loop _]
      exact hrec)⟩
theorem list_neG (l b : Addr) (N : Nat) (I : Nat → Shared → Prop) (hl : ListI prog w A (fun e s' => R (.error e) s') l b N I)
    (fin : ∀ s, I N s → R (.ok (.ret (.bool false))) s) {s : Shared} (h : I 0 s) :
    wpAny (model prog w) A.in1 (Builtin.«list.__ne__» ⟨[.ref l, .ref b], []⟩) (FinOf prog w A R) (fun e s' => R (.error e) s') s := by
  obtain ⟨items, items2, n, n2, hl1, hb1, hs1, hs2, _⟩ := hl _ _ h
  have hrec := ne_loopG (A := A) (R := R) l b N I hl fin _ 0 rfl (Nat.zero_le _) s h
  obtain ⟨hp, g, d, tk, os⟩ := s
  have f3 := AutoSeq1.sub_list_list
  have hne : ¬ (items.size != items2.size) = true := by simp [hs1, hs2]
  wp_walk using wpAny_loadPart' hl1, wpAny_loadPart' hb1
  exact ⟨plainId_quiet plain_eq_loop _, codeAny_builtin entry_eq_loop (by
    rw [Around.under_plainId plain_eq_loop _]
    exact hrec)⟩
theorem rc_listN {l b : Addr} {N : Nat} {Q : Value → Shared → Prop} (hu : A.units < cLine) (I : Nat → Shared → Prop) (hl : ListI prog w A E l b N I)
    (fin : ∀ s, I N s → Q (.bool false) s) (h : I 0 s) : wpAny (model prog w) A (richCompare .NotEq (.ref l) (.ref b)) Q E s := by
  obtain ⟨items, items2, n, n2, hl1, hb1, _, _, _⟩ := hl _ _ h
  refine wpAny_richCompare_same_room (op := .NotEq) ⟨_, hl1, rfl⟩ ⟨_, hb1, rfl⟩ F.slot_list_ne (call_here F.slot_list_ne ⟨_, hl1, rfl⟩ F.entry_list_ne (F.args_list_ne_2 _ _) ?_) hu
  exact list_neG (R := wants (fun v s' => v ≠ .notImplemented ∧ Q v s') E) l b N I hl (fun s' q => ⟨(fun x => nomatch x), fin s' q⟩) h
end
section
variable {X : Cx} {n m : Nat} {D D' : Cmp}
theorem EqB.mono (h : EqB X n D) (hn : n ≤ m) : EqB X m D := fun A pins s σ H x y u v b sb => h A pins s σ H x y u v b (sb.mono hn)
theorem EqB.or (h : EqB X n D) (h' : EqB X n D') : EqB X n (fun x y H b => D x y H b ∨ D' x y H b) := fun A pins s σ H x y u v b sb I rx ry d => by
  rcases d with d | d
  · exact h A pins s σ H x y u v b sb I rx ry d
  · exact h' A pins s σ H x y u v b sb I rx ry d
/-- the very same objects, and flat values -/
def CPair : Cmp := fun x y _ b => EqPair x y b
theorem eqB_pair : EqB X 0 CPair := fun A pins s σ H x y u v b sb I rx ry d => (EqPair.at (A := A) (s := s) d rx ry) X.prog X.w X.xe _ ⟨rfl, I⟩
/-- x != y of lists that are equal item by item -/
def rNeB (D : Cmp) : R2 := fun x y H Q => ∃ p q xs ys, x = .ref p ∧ y = .ref q ∧ H p = some (.lst xs) ∧ H q = some (.lst ys) ∧ xs.length = ys.length ∧ (∀ (i : Nat) x y, xs[i]? = some x → ys[i]? = some y → D x y H true) ∧ Q (.bl false) H
theorem op_neB (h : EqB X n D) (hr : Room (n + 1) X.A) : OpR X (compareOp .NotEq) (rNeB D) := by
  intro pins s σ H x y v u Q I rx ry hq
  obtain ⟨p, q, xs, ys, rfl, rfl, hp, hq, hlen, he, k⟩ := hq
  cases rx
  cases ry
  have sb : Sub X (n + 1) X.A := ⟨hr, rfl⟩
  show wpAny (model X.prog X.w) X.A (richCompare .NotEq (.ref p) (.ref q)) (EP X pins σ Q) X.xe s
  refine rc_listN (N := xs.length) hr.units0 (fun _ t => Inv X pins σ H t) (fun i t It => ?_) (fun t It => ⟨.bl false, H, It, rfl, k⟩) I
  obtain ⟨z, its, k1, r1, e1⟩ := It.hok p _ hp
  obtain ⟨z2, its2, k2, r2, e2⟩ := It.hok q _ hq
  refine ⟨its.toArray, its2.toArray, k1, k2, e1, e2, by rw [List.size_toArray, ← r1.length], by rw [List.size_toArray, ← r2.length, ← hlen], fun h1 h2 => ?_⟩
  rw [List.size_toArray] at h1 h2
  have g1 : i < xs.length := by rw [r1.length]; exact h1
  have g2 : i < ys.length := by rw [r2.length]; exact h2
  obtain ⟨u1, a1, b1⟩ := r1.get (List.getElem?_eq_getElem g1)
  obtain ⟨u2, a2, b2⟩ := r2.get (List.getElem?_eq_getElem g2)
  rw [List.getElem?_eq_getElem h1] at a1
  rw [List.getElem?_eq_getElem h2] at a2
  cases a1
  cases a2
  exact h X.A.in1 pins t σ H _ _ _ _ _ sb.in1 It b1 b2 (he i _ _ (List.getElem?_eq_getElem g1) (List.getElem?_eq_getElem g2))
end
end AT

set_option maxHeartbeats 4000000
/-! maps of straight pieces, as lists of points -/
namespace PL
abbrev Pnt := Rat × Rat
def slp (p q : Pnt) : Rat := (q.2 - p.2) / (q.1 - p.1)
def Blw (p q : Pnt) : Prop := p.1 < q.1 ∧ p.2 < q.2
def Ris : List Pnt → Prop
  | [] => True
  | [_] => True
  | p :: q :: r => Blw p q ∧ Ris (q :: r)
/-- from the point p on, with the further points r -/
def goQ : Pnt → List Pnt → Rat → Rat
  | p, [], x => p.2 + (x - p.1)
  | p, q :: r, x => if x < q.1 then p.2 + (x - p.1) / (q.1 - p.1) * (q.2 - p.2) else goQ q r x
def ledR : List Pnt → Rat → Rat
  | [], x => x
  | p :: r, x => if x < p.1 then p.2 + (x - p.1) else goQ p r x
def outS : Pnt → List Pnt → Rat
  | _, [] => 1
  | p, q :: _ => slp p q
/-- the points at which the slope changes; m is the slope ahead of the first -/
def bendR : Rat → List Pnt → List Pnt
  | _, [] => []
  | m, p :: r => if m = outS p r then bendR (outS p r) r else p :: bendR (outS p r) r
def paceR : Rat → List Pnt → Rat → Rat
  | m, [], _ => m
  | m, p :: r, x => if p.1 ≤ x then paceR (outS p r) r x else m
def bendF (ps : List Pnt) : List Pnt := if bendR 1 ps = [] then [(0, ledR ps 0)] else bendR 1 ps
theorem Ris.tail {p : Pnt} {r : List Pnt} (h : Ris (p :: r)) : Ris r := by
  cases r with
  | nil => trivial
  | cons q r => exact h.2
theorem Ris.all {p : Pnt} {r : List Pnt} (h : Ris (p :: r)) : ∀ q ∈ r, Blw p q := by
  induction r generalizing p with
  | nil => intro q hq; cases hq
  | cons q r ih =>
    intro z hz
    rcases List.mem_cons.mp hz with rfl | hz
    · exact h.1
    · have h1 := ih h.2 z hz
      have h2 := h.1
      exact ⟨by have := h1.1; have := h2.1; grind, by have := h1.2; have := h2.2; grind⟩
theorem ris_of {p : Pnt} {r : List Pnt} (h : ∀ q ∈ r, Blw p q) (hr : Ris r) : Ris (p :: r) := by
  cases r with
  | nil => trivial
  | cons q r => exact ⟨h q (by simp), hr⟩
theorem bend_mem {m : Rat} {l : List Pnt} : ∀ {b : Pnt}, b ∈ bendR m l → b ∈ l := by
  induction l generalizing m with
  | nil => intro b h; cases h
  | cons p r ih =>
    intro b h
    unfold bendR at h
    split at h
    · exact List.mem_cons_of_mem _ (ih h)
    · rcases List.mem_cons.mp h with rfl | h
      · simp
      · exact List.mem_cons_of_mem _ (ih h)
theorem bend_ris {m : Rat} {l : List Pnt} (h : Ris l) : Ris (bendR m l) := by
  induction l generalizing m with
  | nil => trivial
  | cons p r ih =>
    unfold bendR
    split
    · exact ih h.tail
    · exact ris_of (fun q hq => h.all q (bend_mem hq)) (ih h.tail)
/-- no bend: the slope is 1 all along -/
theorem bend_nil {m : Rat} {p : Pnt} {r : List Pnt} (h : bendR m (p :: r) = []) : m = 1 := by
  induction r generalizing m p with
  | nil =>
    unfold bendR at h
    split at h
    · assumption
    · cases h
  | cons q r ih =>
    unfold bendR at h
    split at h
    · rename_i e
      have := ih h
      rw [e, this]
    · cases h
theorem slp_line {p q : Pnt} (h : p.1 < q.1) (x : Rat) : p.2 + (x - p.1) * slp p q = q.2 + (x - q.1) * slp p q := by
  unfold slp
  have : q.1 - p.1 ≠ 0 := by grind
  grind
theorem slp_of {p q : Pnt} {n : Rat} (h : p.1 < q.1) (e : q.2 = p.2 + (q.1 - p.1) * n) : slp p q = n := by
  unfold slp
  have : q.1 - p.1 ≠ 0 := by grind
  rw [e]
  grind
/-- the first bend lies on the line -/
theorem bend_line {m : Rat} {p : Pnt} {r : List Pnt} (hr : Ris (p :: r)) {b : Pnt} {bs : List Pnt} (h : bendR m (p :: r) = b :: bs) : b.2 = p.2 + (b.1 - p.1) * m := by
  induction r generalizing m p with
  | nil =>
    unfold bendR at h
    split at h
    · cases h
    · cases h; grind
  | cons q r ih =>
    unfold bendR at h
    split at h
    · rename_i e
      have h1 := ih hr.2 h
      have h2 := slp_line hr.1.1 b.1
      rw [e]
      show b.2 = p.2 + (b.1 - p.1) * slp p q
      rw [h2, h1]
      rfl
    · cases h; grind
theorem bend_out {p : Pnt} {r : List Pnt} (hr : Ris (p :: r)) : outS p (bendR (outS p r) r) = outS p r := by
  cases r with
  | nil => rfl
  | cons q r =>
    cases e : bendR (outS p (q :: r)) (q :: r) with
    | nil => exact (bend_nil e).symm
    | cons b bs =>
      have h1 := bend_line hr.2 e
      have h2 := slp_line hr.1.1 b.1
      have h3 := hr.all b (bend_mem (by rw [e]; simp))
      exact slp_of h3.1 (h1.trans h2.symm)
def G (m : Rat) (p : Pnt) (bs : List Pnt) (x : Rat) : Rat := match bs with
  | [] => p.2 + (x - p.1) * m
  | b :: bs' => if x < b.1 then p.2 + (x - p.1) * m else goQ b bs' x
theorem bend_eq {m : Rat} {p : Pnt} {r : List Pnt} (h : m = outS p r) : bendR m (p :: r) = bendR (outS p r) r := by
  conv => lhs; unfold bendR
  rw [if_pos h]
theorem bend_ne {m : Rat} {p : Pnt} {r : List Pnt} (h : m ≠ outS p r) : bendR m (p :: r) = p :: bendR (outS p r) r := by
  conv => lhs; unfold bendR
  rw [if_neg h]
theorem G_nil {m : Rat} {p : Pnt} {x : Rat} : G m p [] x = p.2 + (x - p.1) * m := rfl
theorem G_cons {m : Rat} {p b : Pnt} {bs : List Pnt} {x : Rat} : G m p (b :: bs) x = if x < b.1 then p.2 + (x - p.1) * m else goQ b bs x := rfl
theorem go_nil {p : Pnt} {x : Rat} : goQ p [] x = p.2 + (x - p.1) := rfl
theorem go_cons {p q : Pnt} {r : List Pnt} {x : Rat} : goQ p (q :: r) x = if x < q.1 then p.2 + (x - p.1) / (q.1 - p.1) * (q.2 - p.2) else goQ q r x := rfl
theorem led_cons {p : Pnt} {r : List Pnt} {x : Rat} : ledR (p :: r) x = if x < p.1 then p.2 + (x - p.1) else goQ p r x := rfl
theorem G_below {m : Rat} {p : Pnt} {bs : List Pnt} {x : Rat} (h : ∀ b ∈ bs, Blw p b) (hx : x < p.1) : G m p bs x = p.2 + (x - p.1) * m := by
  cases bs with
  | nil => rfl
  | cons b bs =>
    have h1 := (h b (by simp)).1
    have h2 : x < b.1 := by grind
    rw [G_cons, if_pos h2]
theorem seg {p q : Pnt} (h : p.1 < q.1) (x : Rat) : p.2 + (x - p.1) / (q.1 - p.1) * (q.2 - p.2) = p.2 + (x - p.1) * slp p q := by
  unfold slp
  have : q.1 - p.1 ≠ 0 := by grind
  grind
theorem led_bend {m : Rat} {p : Pnt} {r : List Pnt} (hr : Ris (p :: r)) (x : Rat) : (if x < p.1 then p.2 + (x - p.1) * m else goQ p r x) = G m p (bendR m (p :: r)) x := by
  induction r generalizing m p x with
  | nil =>
    by_cases e : m = 1
    · rw [bend_eq (by exact e), e]
      show _ = p.2 + (x - p.1) * 1
      rw [go_nil]
      split <;> grind
    · rw [bend_ne (by exact e)]
      rfl
  | cons q r ih =>
    have h2 : ∀ x, goQ p (q :: r) x = G (slp p q) p (bendR (slp p q) (q :: r)) x := by
      intro x
      have h1 := ih (m := slp p q) hr.2 x
      have ln := slp_line hr.1.1 x
      rw [go_cons, seg hr.1.1, ln, h1]
      cases bendR (slp p q) (q :: r) with
      | nil => rw [G_nil, G_nil, ln]
      | cons b bs => rw [G_cons, G_cons, ln]
    have hb : ∀ b ∈ bendR (slp p q) (q :: r), Blw p b := fun b hb => hr.all b (bend_mem hb)
    by_cases e : m = slp p q
    · rw [bend_eq (by exact e), h2 x]
      subst e
      show _ = G (slp p q) p (bendR (slp p q) (q :: r)) x
      by_cases hx : x < p.1
      · rw [if_pos hx, G_below hb hx]
      · rw [if_neg hx]
    · rw [bend_ne (by exact e), h2 x]
      show _ = G m p (p :: bendR (slp p q) (q :: r)) x
      rw [G_cons]
      by_cases hx : x < p.1
      · rw [if_pos hx, if_pos hx]
      · rw [if_neg hx, if_neg hx]
        have ho : outS p (bendR (slp p q) (q :: r)) = slp p q := bend_out hr
        generalize bendR (slp p q) (q :: r) = bs at ho hb
        cases bs with
        | nil =>
          have ho : 1 = slp p q := ho
          rw [G_nil, go_nil, ← ho]
          grind
        | cons b bs =>
          have hp := (hb b (by simp)).1
          have ho : slp p b = slp p q := ho
          rw [G_cons, go_cons, seg hp, ho]
/-- the bends alone tell the same map -/
theorem led_bends {ps : List Pnt} (hr : Ris ps) (x : Rat) : ledR (bendF ps) x = ledR ps x := by
  cases ps with
  | nil =>
    unfold bendF
    show ledR [(0, 0)] x = x
    simp only [ledR, goQ]
    grind
  | cons p r =>
    have h : ∀ x, ledR (p :: r) x = G 1 p (bendR 1 (p :: r)) x := fun x => by
      rw [← led_bend hr x]
      show (if x < p.1 then _ else _) = _
      grind
    unfold bendF
    cases e : bendR 1 (p :: r) with
    | nil =>
      rw [if_pos rfl]
      have h0 := h 0
      have hx := h x
      rw [e] at h0 hx
      rw [hx, led_cons, h0, G_nil, G_nil, go_nil]
      grind
    | cons b bs =>
      rw [if_neg (by simp)]
      have hx := h x
      rw [e] at hx
      rw [hx]
      have hl := bend_line hr e
      simp only [ledR, G]
      grind
theorem led_flat {p : Pnt} {r : List Pnt} (hr : Ris (p :: r)) (h : bendR 1 (p :: r) = []) (x : Rat) : ledR (p :: r) x = p.2 + (x - p.1) := by
  have e : ledR (p :: r) x = G 1 p (bendR 1 (p :: r)) x := by
    rw [← led_bend hr x]
    show (if x < p.1 then _ else _) = _
    grind
  rw [e, h]
  simp only [G]
  grind
theorem pace_bend {m : Rat} {l : List Pnt} (hr : Ris l) (x : Rat) : paceR m (bendR m l) x = paceR m l x := by
  induction l generalizing m with
  | nil => rfl
  | cons p r ih =>
    have h1 := ih (m := outS p r) hr.tail
    have hb : ∀ b ∈ bendR (outS p r) r, Blw p b := fun b hb => hr.all b (bend_mem hb)
    unfold bendR
    split
    · rename_i e
      subst e
      rw [h1]
      show _ = if p.1 ≤ x then paceR (outS p r) r x else outS p r
      split
      · rfl
      · rename_i hx
        rw [← h1]
        cases e : bendR (outS p r) r with
        | nil => rfl
        | cons b bs =>
          have := (hb b (by rw [e]; simp)).1
          unfold paceR
          rw [if_neg (by grind)]
    · show (if p.1 ≤ x then paceR (outS p (bendR (outS p r) r)) (bendR (outS p r) r) x else m) = if p.1 ≤ x then paceR (outS p r) r x else m
      rw [bend_out hr, h1]
theorem pace_bends {ps : List Pnt} (hr : Ris ps) (x : Rat) : paceR 1 (bendF ps) x = paceR 1 ps x := by
  rw [← pace_bend hr x]
  unfold bendF
  split
  · rename_i e
    rw [e]
    simp only [paceR, outS]
    grind
  · rfl
theorem bend_bend {m : Rat} {l : List Pnt} (hr : Ris l) : bendR m (bendR m l) = bendR m l := by
  induction l generalizing m with
  | nil => rfl
  | cons p r ih =>
    by_cases e : m = outS p r
    · rw [bend_eq e, e]
      exact ih hr.tail
    · have ho := bend_out hr
      rw [bend_ne e, bend_ne (by rw [ho]; exact e), ho, ih hr.tail]
theorem bends_bends {ps : List Pnt} (hr : Ris ps) : bendF (bendF ps) = bendF ps := by
  unfold bendF
  split
  · simp only [bendR, outS, ledR, goQ]
    simp
    grind
  · rename_i e
    rw [bend_bend hr, if_neg e]
theorem bendF_ne (ps : List Pnt) : bendF ps ≠ [] := by
  unfold bendF
  split
  · simp
  · assumption
theorem bendF_ris {ps : List Pnt} (hr : Ris ps) : Ris (bendF ps) := by
  unfold bendF
  split
  · trivial
  · exact bend_ris hr
theorem bend_cg {m : Rat} {p : Pnt} {r r' : List Pnt} (ho : outS p r = outS p r') (h : bendR (outS p r') r = bendR (outS p r') r') : bendR m (p :: r) = bendR m (p :: r') := by
  by_cases c : m = outS p r'
  · exact (bend_eq (ho ▸ c)).trans ((by rw [ho]; exact h : bendR (outS p r) r = bendR (outS p r') r').trans (bend_eq c).symm)
  · exact (bend_ne (ho ▸ c)).trans ((by rw [ho, h] : p :: bendR (outS p r) r = p :: bendR (outS p r') r').trans (bend_ne c).symm)
/-- points between -/
def midP (p q : Pnt) : Pnt := ((p.1 + q.1) / 2, (p.2 + q.2) / 2)
def finer : List Pnt → List Pnt
  | [] => []
  | [p] => [p]
  | p :: q :: r => p :: midP p q :: finer (q :: r)
theorem finer_head (q : Pnt) (r : List Pnt) : ∃ t, finer (q :: r) = q :: t := by
  cases r with
  | nil => exact ⟨_, rfl⟩
  | cons p r => exact ⟨_, rfl⟩
theorem mid_l {p q : Pnt} (h : p.1 < q.1) : slp p (midP p q) = slp p q := by
  unfold slp midP
  have : q.1 - p.1 ≠ 0 := by grind
  have : (p.1 + q.1) / 2 - p.1 ≠ 0 := by grind
  grind
theorem mid_r {p q : Pnt} (h : p.1 < q.1) : slp (midP p q) q = slp p q := by
  unfold slp midP
  have : q.1 - p.1 ≠ 0 := by grind
  have : q.1 - (p.1 + q.1) / 2 ≠ 0 := by grind
  grind
/-- with a further point behind the last, on the line of slope 1 -/
def more (l : List Pnt) (b : Bool) : List Pnt := match b, l.getLast? with
  | true, some p => l ++ [(p.1 + 3, p.2 + 3)]
  | _, _ => l
theorem more_or (l : List Pnt) (b : Bool) : more l b = l ∨ ∃ p, l.getLast? = some p ∧ more l b = l ++ [(p.1 + 3, p.2 + 3)] := by
  unfold more
  split
  · rename_i p h
    exact .inr ⟨p, h, rfl⟩
  · exact .inl rfl
theorem bend_last {m : Rat} {e : Pnt} {l : List Pnt} {p : Pnt} (hl : l.getLast? = some p) (hs : slp p e = 1) : bendR m (l ++ [e]) = bendR m l := by
  induction l generalizing m with
  | nil => cases hl
  | cons q r ih =>
    cases r with
    | nil =>
      have hl : q = p := by simpa using hl
      subst hl
      exact bend_cg (r := [e]) (r' := []) hs (bend_eq rfl)
    | cons z r =>
      exact bend_cg (r := z :: (r ++ [e])) (r' := z :: r) rfl (ih (by rw [List.getLast?_cons_cons] at hl; exact hl))
theorem bend_finer {m : Rat} {l : List Pnt} (hr : Ris l) : bendR m (finer l) = bendR m l := by
  induction l generalizing m with
  | nil => rfl
  | cons p r ih =>
    cases r with
    | nil => rfl
    | cons q r =>
      obtain ⟨t, ht⟩ := finer_head q r
      have h1 := fun m => ih (m := m) hr.2
      have hm : bendR (slp p q) (midP p q :: finer (q :: r)) = bendR (slp p q) (q :: r) := by
        rw [← h1]
        have e : slp p q = outS (midP p q) (finer (q :: r)) := by rw [ht]; exact (mid_r hr.1.1).symm
        rw [bend_eq e, ← e]
      exact bend_cg (r := midP p q :: finer (q :: r)) (r' := q :: r) (mid_l hr.1.1) hm
theorem finer_last {l : List Pnt} : (finer l).getLast? = l.getLast? := by
  induction l with
  | nil => rfl
  | cons p r ih =>
    cases r with
    | nil => rfl
    | cons q r =>
      show (p :: midP p q :: finer (q :: r)).getLast? = (p :: q :: r).getLast?
      obtain ⟨t, ht⟩ := finer_head q r
      rw [ht] at ih ⊢
      rw [List.getLast?_cons_cons, List.getLast?_cons_cons, List.getLast?_cons_cons, ih]
theorem ris_snoc {l : List Pnt} {e : Pnt} (hr : Ris l) (h : ∀ p, l.getLast? = some p → Blw p e) : Ris (l ++ [e]) := by
  induction l with
  | nil => trivial
  | cons p r ih =>
    cases r with
    | nil => exact ⟨h p rfl, trivial⟩
    | cons q r => exact ⟨hr.1, ih hr.2 fun z hz => h z (by rw [List.getLast?_cons_cons]; exact hz)⟩
theorem finer_ris {l : List Pnt} (hr : Ris l) : Ris (finer l) := by
  induction l with
  | nil => trivial
  | cons p r ih =>
    cases r with
    | nil => trivial
    | cons q r =>
      obtain ⟨t, ht⟩ := finer_head q r
      have h1 := ih hr.2
      have h2 := hr.1
      show Ris (p :: midP p q :: finer (q :: r))
      rw [ht] at h1 ⊢
      exact ⟨⟨by have := h2.1; simp only [midP]; grind, by have := h2.2; simp only [midP]; grind⟩, ⟨by have := h2.1; simp only [midP]; grind, by have := h2.2; simp only [midP]; grind⟩, h1⟩
theorem more_ris {l : List Pnt} {b : Bool} (hr : Ris l) : Ris (more l b) := by
  rcases more_or l b with e | ⟨p, hp, e⟩
  · rw [e]; exact hr
  · rw [e]
    exact ris_snoc hr fun z hz => by
      rw [hp] at hz
      cases hz
      exact ⟨by show p.1 < p.1 + 3; grind, by show p.2 < p.2 + 3; grind⟩
/-- finer points, and a further one behind, tell the same bends -/
theorem bends_finer {l : List Pnt} (b : Bool) (hr : Ris l) : bendF (more (finer l) b) = bendF l := by
  have h1 : bendR 1 (more (finer l) b) = bendR 1 l := by
    rcases more_or (finer l) b with e | ⟨p, hp, e⟩
    · rw [e]; exact bend_finer hr
    · rw [e, bend_last hp, bend_finer hr]
      unfold slp
      grind
  unfold bendF
  rw [h1]
  split
  · rename_i e
    cases l with
    | nil =>
      rcases more_or (finer []) b with e | ⟨p, hp, e⟩
      · rw [e]; rfl
      · cases hp
    | cons p r =>
      obtain ⟨t, ht⟩ := finer_head p r
      have hh : ∃ t', more (finer (p :: r)) b = p :: t' := by
        rcases more_or (finer (p :: r)) b with e | ⟨_, _, e⟩
        · rw [e, ht]; exact ⟨_, rfl⟩
        · rw [e, ht]; exact ⟨_, rfl⟩
      obtain ⟨t', ht'⟩ := hh
      have hrm := more_ris (b := b) (finer_ris hr)
      rw [ht'] at hrm h1 ⊢
      rw [led_flat hr e, led_flat hrm (h1.trans e)]
  · rfl
theorem bend_has {m : Rat} {e : Pnt} {l : List Pnt} {p : Pnt} (hl : l.getLast? = some p) (hs : slp p e ≠ 1) : e ∈ bendR m (l ++ [e]) := by
  induction l generalizing m with
  | nil => cases hl
  | cons q r ih =>
    cases r with
    | nil =>
      have hl : q = p := by simpa using hl
      subst hl
      have e1 : bendR (slp q e) [e] = [e] := bend_ne (by exact hs)
      show e ∈ bendR m (q :: [e])
      by_cases c : m = slp q e
      · rw [bend_eq (by exact c)]
        show e ∈ bendR (slp q e) [e]
        rw [e1]
        simp
      · rw [bend_ne (by exact c)]
        show e ∈ q :: bendR (slp q e) [e]
        rw [e1]
        simp
    | cons z r =>
      have h1 := fun m => ih (m := m) (by rw [List.getLast?_cons_cons] at hl; exact hl)
      show e ∈ bendR m (q :: z :: (r ++ [e]))
      by_cases c : m = slp q z
      · rw [bend_eq (by exact c)]
        exact h1 _
      · rw [bend_ne (by exact c)]
        exact List.mem_cons_of_mem _ (h1 _)
theorem ris_last {l : List Pnt} {p : Pnt} (hr : Ris l) (hl : l.getLast? = some p) : ∀ q ∈ l, q.1 ≤ p.1 := by
  induction l with
  | nil => cases hl
  | cons z r ih =>
    intro q hq
    cases r with
    | nil =>
      have hl : z = p := by simpa using hl
      have hq : q = z := by simpa using hq
      subst hl hq
      exact Rat.le_refl
    | cons y r =>
      have hl : (y :: r).getLast? = some p := by rw [List.getLast?_cons_cons] at hl; exact hl
      have h1 := ih hr.2 hl
      rcases List.mem_cons.mp hq with rfl | hq
      · have h2 := h1 y (by simp)
        have h3 := hr.1.1
        grind
      · exact h1 q hq
/-- a bent map differs -/
theorem bent_ne {bs : List Pnt} {p : Pnt} (hr : Ris bs) (hl : bs.getLast? = some p) : bendF (bs ++ [(p.1 + 1, p.2 + 3 / 2)]) ≠ bs := by
  intro h
  have hm : (p.1 + 1, p.2 + 3 / 2) ∈ bendR 1 (bs ++ [(p.1 + 1, p.2 + 3 / 2)]) := bend_has hl (by unfold slp; grind)
  have hb : (p.1 + 1, p.2 + 3 / 2) ∈ bs := by
    rw [← h]
    unfold bendF
    rw [if_neg (fun z => by rw [z] at hm; cases hm)]
    exact hm
  have := ris_last hr hl _ hb
  grind
end PL

set_option maxHeartbeats 4000000
namespace PL
theorem ris_repl : ∀ {l1 l2 : List Pnt} {p p' : Pnt}, Ris (l1 ++ p :: l2) → (∀ q, l1.getLast? = some q → Blw q p') → p'.1 ≤ p.1 → p'.2 ≤ p.2 → Ris (l1 ++ p' :: l2)
  | [], l2, p, p', h, _, h1, h2 => by
    refine ris_of (fun q hq => ?_) h.tail
    have := Ris.all h q hq
    exact ⟨by have := this.1; grind, by have := this.2; grind⟩
  | [a], l2, p, p', h, hl, h1, h2 => ⟨hl a rfl, ris_repl (l1 := []) h.2 (fun _ z => nomatch z) h1 h2⟩
  | a :: b :: l1, l2, p, p', h, hl, h1, h2 => ⟨h.1, ris_repl (l1 := b :: l1) h.2 (fun q hq => hl q (by rw [List.getLast?_cons_cons]; exact hq)) h1 h2⟩
theorem ris_map {l : List Pnt} {a b : Rat} (h : Ris l) : Ris (l.map fun p => (p.1 + a, p.2 + b)) := by
  induction l with
  | nil => trivial
  | cons p r ih =>
    cases r with
    | nil => trivial
    | cons q r => exact ⟨⟨by have := h.1.1; show p.1 + a < q.1 + a; grind, by have := h.1.2; show p.2 + b < q.2 + b; grind⟩, ih h.2⟩
theorem ris_before {l1 l2 : List Pnt} {p q : Pnt} (h : Ris (l1 ++ p :: l2)) (hl : l1.getLast? = some q) : Blw q p := by
  induction l1 with
  | nil => cases hl
  | cons a r ih =>
    cases r with
    | nil =>
      have : a = q := by simpa using hl
      subst this
      exact h.1
    | cons b r => exact ih h.2 (by rw [List.getLast?_cons_cons] at hl; exact hl)
end PL

set_option maxHeartbeats 4000000
namespace PL
/-- the line of slope m through (0, c) up to the first of the points bs, then along these -/
def FF (m c : Rat) (bs : List Pnt) (x : Rat) : Rat := match bs with
  | [] => m * x + c
  | b :: r => if x < b.1 then m * x + c else goQ b r x
theorem FF_nil {m c x : Rat} : FF m c [] x = m * x + c := rfl
theorem FF_cons {m c x : Rat} {b : Pnt} {r : List Pnt} : FF m c (b :: r) x = if x < b.1 then m * x + c else goQ b r x := rfl
/-- the first point lies on the line -/
def Onl (m c : Rat) (bs : List Pnt) : Prop := ∀ b r, bs = b :: r → b.2 = m * b.1 + c
theorem go_FF {b : Pnt} {r : List Pnt} (hr : Ris (b :: r)) {x : Rat} (hx : ¬ x < b.1) : goQ b r x = FF (outS b r) (b.2 - outS b r * b.1) r x := by
  cases r with
  | nil =>
    rw [go_nil, FF_nil]
    show _ = 1 * x + (b.2 - 1 * b.1)
    grind
  | cons q r =>
    rw [go_cons, FF_cons, seg hr.1.1]
    show (if x < q.1 then b.2 + (x - b.1) * slp b q else goQ q r x) = if x < q.1 then slp b q * x + (b.2 - slp b q * b.1) else goQ q r x
    by_cases c : x < q.1
    · rw [if_pos c, if_pos c]
      grind
    · rw [if_neg c, if_neg c]
theorem onl_out {b : Pnt} {r : List Pnt} (hr : Ris (b :: r)) : Onl (outS b r) (b.2 - outS b r * b.1) r := by
  rintro q r' rfl
  show q.2 = slp b q * q.1 + (b.2 - slp b q * b.1)
  have := slp_line hr.1.1 q.1
  grind
/-- a place behind b where the line of b's way out still holds, below the bound z -/
theorem some_place {b : Pnt} {r : List Pnt} (hr : Ris (b :: r)) (z : Rat) (hz : b.1 < z) : ∃ x, b.1 < x ∧ x < z ∧ ∀ q r', r = q :: r' → x < q.1 := by
  cases r with
  | nil => exact ⟨(b.1 + z) / 2, by grind, by grind, fun q r' e => nomatch e⟩
  | cons q r =>
    have h := hr.1.1
    by_cases c : z ≤ q.1
    · refine ⟨(b.1 + z) / 2, by grind, by grind, fun q' r' e => ?_⟩
      cases e
      grind
    · refine ⟨(b.1 + q.1) / 2, by grind, by grind, fun q' r' e => ?_⟩
      cases e
      grind
theorem FF_line {m c x : Rat} {r : List Pnt} (h : ∀ q r', r = q :: r' → x < q.1) : FF m c r x = m * x + c := by
  cases r with
  | nil => rfl
  | cons q r => rw [FF_cons, if_pos (h q r rfl)]
/-- every point is a bend -/
def Can (m : Rat) (bs : List Pnt) : Prop := bendR m bs = bs
theorem Can.ne {m : Rat} {b : Pnt} {r : List Pnt} (h : Can m (b :: r)) : m ≠ outS b r ∧ Can (outS b r) r := by
  unfold Can at h ⊢
  by_cases c : m = outS b r
  · rw [bend_eq c] at h
    have hl : ∀ (m : Rat) (l : List Pnt), (bendR m l).length ≤ l.length := by
      intro m l
      induction l generalizing m with
      | nil => exact Nat.le_refl _
      | cons p r ih =>
        by_cases c : m = outS p r
        · rw [bend_eq c]
          exact Nat.le_trans (ih _) (by simp)
        · rw [bend_ne c]
          simpa using ih _
    have := hl (outS b r) r
    rw [h] at this
    simp at this
    omega
  · rw [bend_ne c] at h
    exact ⟨c, (List.cons.inj h).2⟩
/-- a bend ahead of where the other goes straight on: the two differ -/
theorem can_no {m c : Rat} {b : Pnt} {r cs : List Pnt} (hr : Ris (b :: r)) (hb : Onl m c (b :: r)) (hc : Can m (b :: r)) (z : Rat) (hz : b.1 < z) (hcs : ∀ q r', cs = q :: r' → z ≤ q.1) (h : ∀ x, FF m c (b :: r) x = FF m c cs x) : False := by
  obtain ⟨x, h1, h2, h3⟩ := some_place hr z hz
  have e1 := h x
  rw [FF_cons, if_neg (by grind), go_FF hr (by grind), FF_line h3, FF_line (fun q r' e => by have := hcs q r' e; grind)] at e1
  have e2 := hb b r rfl
  have e3 := hc.ne.1
  generalize outS b r = n at e1 e3
  have : (x - b.1) * (n - m) = 0 := by grind
  rcases Rat.mul_eq_zero.mp this with w | w
  · grind
  · grind
theorem can_eq : ∀ {bs cs : List Pnt} {m c : Rat}, Ris bs → Ris cs → Onl m c bs → Onl m c cs → Can m bs → Can m cs → (∀ x, FF m c bs x = FF m c cs x) → bs = cs
  | [], [], _, _, _, _, _, _, _, _, _ => rfl
  | [], b :: r, m, c, _, hr, _, hb, _, hc, h => (can_no hr hb hc (b.1 + 1) (by grind) (fun _ _ e => by cases e) (fun x => (h x).symm)).elim
  | b :: r, [], m, c, hr, _, hb, _, hc, _, h => (can_no hr hb hc (b.1 + 1) (by grind) (fun _ _ e => by cases e) h).elim
  | b :: r, b' :: r', m, c, hr, hr', hb, hb', hc, hc', h => by
    have e1 : b.1 = b'.1 := by
      by_cases c1 : b.1 < b'.1
      · exact (can_no hr hb hc b'.1 c1 (fun q _ e => by cases e; exact Rat.le_refl) h).elim
      · by_cases c2 : b'.1 < b.1
        · exact (can_no hr' hb' hc' b.1 c2 (fun q _ e => by cases e; exact Rat.le_refl) (fun x => (h x).symm)).elim
        · grind
    have e2 : b = b' := by
      have h1 := hb b r rfl
      have h2 := hb' b' r' rfl
      exact Prod.ext e1 (by rw [h1, h2, e1])
    subst e2
    obtain ⟨x1, a1, a2, a3⟩ := some_place hr (b.1 + 1) (by grind)
    obtain ⟨x, b1, b2, b3⟩ := some_place hr' x1 a1
    have a3' : ∀ q r2, r = q :: r2 → x < q.1 := fun q r2 e => by have := a3 q r2 e; grind
    have ex := h x
    rw [FF_cons, FF_cons, if_neg (by grind), if_neg (by grind), go_FF hr (by grind), go_FF hr' (by grind), FF_line a3', FF_line b3] at ex
    have en : outS b r = outS b r' := by
      generalize outS b r = n at ex
      generalize outS b r' = n' at ex
      have : (x - b.1) * (n - n') = 0 := by grind
      rcases Rat.mul_eq_zero.mp this with w | w
      · grind
      · grind
    have ht : r = r' := by
      refine can_eq hr.tail hr'.tail (onl_out hr) (by rw [en]; exact onl_out hr') hc.ne.2 (by rw [en]; exact hc'.ne.2) fun y => ?_
      by_cases cy : y < b.1
      · rw [FF_line (fun q r2 e => by have := hr.all q (by rw [e]; simp); have := this.1; grind), FF_line (fun q r2 e => by have := hr'.all q (by rw [e]; simp); have := this.1; grind)]
      · have := h y
        rw [FF_cons, FF_cons, if_neg cy, if_neg cy, go_FF hr cy, go_FF hr' cy, ← en] at this
        exact this
    rw [ht]
/-- the line ahead of the first point -/
def c0 : List Pnt → Rat
  | [] => 0
  | p :: _ => p.2 - p.1
theorem led_FF {ps : List Pnt} (hr : Ris ps) (x : Rat) : ledR ps x = FF 1 (c0 ps) (bendR 1 ps) x := by
  cases ps with
  | nil =>
    show x = 1 * x + 0
    grind
  | cons p r =>
    have e : ledR (p :: r) x = G 1 p (bendR 1 (p :: r)) x := by
      rw [← led_bend hr x]
      show (if x < p.1 then _ else _) = _
      grind
    rw [e]
    cases bendR 1 (p :: r) with
    | nil =>
      rw [G_nil, FF_nil]
      show _ = 1 * x + (p.2 - p.1)
      grind
    | cons b bs =>
      rw [G_cons, FF_cons]
      show _ = if x < b.1 then 1 * x + (p.2 - p.1) else goQ b bs x
      grind
theorem onl_bend {ps : List Pnt} (hr : Ris ps) : Onl 1 (c0 ps) (bendR 1 ps) := by
  intro b r e
  cases ps with
  | nil => cases e
  | cons p r' =>
    have := bend_line hr e
    show b.2 = 1 * b.1 + (p.2 - p.1)
    grind
/-- maps that are equal at every place have the same bends -/
theorem same_bends {ps qs : List Pnt} (hp : Ris ps) (hq : Ris qs) (h : ∀ x, ledR ps x = ledR qs x) : bendF ps = bendF qs := by
  have hh : ∀ x, FF 1 (c0 ps) (bendR 1 ps) x = FF 1 (c0 qs) (bendR 1 qs) x := fun x => by rw [← led_FF hp, ← led_FF hq]; exact h x
  have ec : c0 ps = c0 qs := by
    have low : ∀ (l : List Pnt), ∃ y, ∀ x, x < y → ∀ q r, l = q :: r → x < q.1 := by
      intro l
      cases l with
      | nil => exact ⟨0, fun x _ q r e => nomatch e⟩
      | cons q r => exact ⟨q.1, fun x hx q' r' e => by cases e; exact hx⟩
    obtain ⟨y1, h1⟩ := low (bendR 1 ps)
    obtain ⟨y2, h2⟩ := low (bendR 1 qs)
    have hx : ∃ x : Rat, x < y1 ∧ x < y2 := by
      by_cases c : y1 < y2
      · exact ⟨y1 - 1, by grind, by grind⟩
      · exact ⟨y2 - 1, by grind, by grind⟩
    obtain ⟨x, l1, l2⟩ := hx
    have := hh x
    rw [FF_line (h1 x l1), FF_line (h2 x l2)] at this
    grind
  have eb : bendR 1 ps = bendR 1 qs := can_eq (bend_ris hp) (bend_ris hq) (onl_bend hp) (by rw [ec]; exact onl_bend hq) (bend_bend hp) (bend_bend hq) fun x => by
    rw [hh x, ec]
  unfold bendF
  rw [eb, h 0]
end PL

set_option maxHeartbeats 4000000
namespace PL
theorem slp_pos {p q : Pnt} (h : Blw p q) : 0 < slp p q := by
  unfold slp
  have h1 : 0 < q.2 - p.2 := by have := h.2; grind
  have h2 : 0 < q.1 - p.1 := by have := h.1; grind
  rw [Rat.div_def]
  exact Rat.mul_pos h1 (Rat.inv_pos.mpr h2)
theorem go_at {p : Pnt} {r : List Pnt} (hr : Ris (p :: r)) : goQ p r p.1 = p.2 := by
  cases r with
  | nil => rw [go_nil]; grind
  | cons q r => rw [go_cons, if_pos hr.1.1, seg hr.1.1]; grind
theorem mul_lt {a b m : Rat} (h : a < b) (hm : 0 < m) : a * m < b * m := by
  have : 0 < (b - a) * m := Rat.mul_pos (by grind) hm
  grind
theorem go_mono {p : Pnt} {r : List Pnt} (hr : Ris (p :: r)) {x y : Rat} (hx : ¬ x < p.1) (h : x < y) : goQ p r x < goQ p r y := by
  induction r generalizing p x with
  | nil => rw [go_nil, go_nil]; grind
  | cons q r ih =>
    have sp := slp_pos hr.1
    have ln := slp_line hr.1.1 q.1
    rw [go_cons, go_cons, seg hr.1.1, seg hr.1.1]
    by_cases c1 : x < q.1
    · by_cases c2 : y < q.1
      · rw [if_pos c1, if_pos c2]
        have := mul_lt (show x - p.1 < y - p.1 by grind) sp
        grind
      · rw [if_pos c1, if_neg c2]
        have h1 := mul_lt (show x - p.1 < q.1 - p.1 by grind) sp
        have h2 : q.2 ≤ goQ q r y := by
          by_cases c3 : y = q.1
          · rw [c3, go_at hr.2]; exact Rat.le_refl
          · have := ih (p := q) hr.2 (x := q.1) (by grind) (by grind)
            rw [go_at hr.2] at this
            grind
        grind
    · rw [if_neg c1, if_neg (by grind)]
      exact ih hr.2 c1 h
theorem led_mono {ps : List Pnt} (hr : Ris ps) {x y : Rat} (h : x < y) : ledR ps x < ledR ps y := by
  cases ps with
  | nil => exact h
  | cons p r =>
    rw [led_cons, led_cons]
    by_cases c1 : x < p.1
    · by_cases c2 : y < p.1
      · rw [if_pos c1, if_pos c2]; grind
      · rw [if_pos c1, if_neg c2]
        by_cases c3 : y = p.1
        · rw [c3, go_at hr]; grind
        · have := go_mono hr (x := p.1) (y := y) (by grind) (by grind)
          rw [go_at hr] at this
          grind
    · rw [if_neg c1, if_neg (by grind)]
      exact go_mono hr c1 h
theorem led_le {ps : List Pnt} (hr : Ris ps) {x y : Rat} : ledR ps x ≤ ledR ps y ↔ x ≤ y := by
  constructor
  · intro h
    by_cases c : y < x
    · have := led_mono hr c
      grind
    · grind
  · intro h
    by_cases c : x = y
    · rw [c]; exact Rat.le_refl
    · have := led_mono hr (show x < y by grind)
      grind
theorem led_lt {ps : List Pnt} (hr : Ris ps) {x y : Rat} : ledR ps x < ledR ps y ↔ x < y := by
  constructor
  · intro h
    by_cases c : x < y
    · exact c
    · have := (led_le hr).mpr (show y ≤ x by grind)
      grind
  · exact led_mono hr
theorem go_pt {p : Pnt} {r : List Pnt} (hr : Ris (p :: r)) : ∀ q ∈ p :: r, goQ p r q.1 = q.2 := by
  induction r generalizing p with
  | nil =>
    intro q hq
    rw [List.mem_singleton.mp hq]
    exact go_at hr
  | cons z r ih =>
    intro q hq
    rcases List.mem_cons.mp hq with rfl | hq
    · exact go_at hr
    · have h1 := ih hr.2 q hq
      have h2 : ¬ q.1 < z.1 := by
        rcases List.mem_cons.mp hq with rfl | h3
        · grind
        · have := (hr.2.all q h3).1
          grind
      rw [go_cons, if_neg h2]
      exact h1
theorem led_pt {ps : List Pnt} (hr : Ris ps) {q : Pnt} (hq : q ∈ ps) : ledR ps q.1 = q.2 := by
  cases ps with
  | nil => cases hq
  | cons p r =>
    have : ¬ q.1 < p.1 := by
      rcases List.mem_cons.mp hq with rfl | h3
      · grind
      · have := (hr.all q h3).1
        grind
    rw [led_cons, if_neg this]
    exact go_pt hr q hq
/-! ### the inverse -/
def swp (p : Pnt) : Pnt := (p.2, p.1)
theorem swp_swp (ps : List Pnt) : (ps.map swp).map swp = ps := by
  rw [List.map_map]
  conv => rhs; rw [← List.map_id ps]
  rfl
theorem ris_swp {ps : List Pnt} (h : Ris ps) : Ris (ps.map swp) := by
  induction ps with
  | nil => trivial
  | cons p r ih =>
    cases r with
    | nil => trivial
    | cons q r => exact ⟨⟨h.1.2, h.1.1⟩, ih h.2⟩
theorem go_swp {p : Pnt} {r : List Pnt} (hr : Ris (p :: r)) {x : Rat} (hx : ¬ x < p.1) : goQ (swp p) (r.map swp) (goQ p r x) = x := by
  induction r generalizing p with
  | nil =>
    show p.1 + (p.2 + (x - p.1) - p.2) = x
    grind
  | cons q r ih =>
    have hs := hr.1
    have nz : q.1 - p.1 ≠ 0 := by have := hs.1; grind
    have nz2 : q.2 - p.2 ≠ 0 := by have := hs.2; grind
    have sp := slp_pos hs
    have ln := slp_line hs.1 q.1
    by_cases c : x < q.1
    · rw [go_cons, if_pos c]
      have hy : p.2 + (x - p.1) / (q.1 - p.1) * (q.2 - p.2) < q.2 := by
        rw [seg hs.1]
        have := mul_lt (show x - p.1 < q.1 - p.1 by grind) sp
        grind
      show goQ (swp p) (swp q :: r.map swp) _ = x
      rw [go_cons, if_pos (by exact hy)]
      show p.1 + (p.2 + (x - p.1) / (q.1 - p.1) * (q.2 - p.2) - p.2) / (q.2 - p.2) * (q.1 - p.1) = x
      grind
    · rw [go_cons, if_neg c]
      have hy : ¬ goQ q r x < q.2 := by
        by_cases c3 : x = q.1
        · rw [c3, go_at hr.2]; grind
        · have := go_mono hr.2 (x := q.1) (y := x) (by grind) (by grind)
          rw [go_at hr.2] at this
          grind
      show goQ (swp p) (swp q :: r.map swp) _ = x
      rw [go_cons, if_neg (by exact hy)]
      exact ih hr.2 c
theorem led_swp {ps : List Pnt} (hr : Ris ps) (x : Rat) : ledR (ps.map swp) (ledR ps x) = x := by
  cases ps with
  | nil => rfl
  | cons p r =>
    by_cases c : x < p.1
    · rw [led_cons, if_pos c]
      show ledR (swp p :: r.map swp) _ = x
      rw [led_cons, if_pos (by show p.2 + (x - p.1) < p.2; grind)]
      show p.1 + (p.2 + (x - p.1) - p.2) = x
      grind
    · rw [led_cons, if_neg c]
      have hy : ¬ goQ p r x < p.2 := by
        by_cases c3 : x = p.1
        · rw [c3, go_at hr]; grind
        · have := go_mono hr (x := p.1) (y := x) (by grind) (by grind)
          rw [go_at hr] at this
          grind
      show ledR (swp p :: r.map swp) _ = x
      rw [led_cons, if_neg (by exact hy)]
      exact go_swp hr c
theorem led_swp' {ps : List Pnt} (hr : Ris ps) (y : Rat) : ledR ps (ledR (ps.map swp) y) = y := by
  have := led_swp (ris_swp hr) y
  rw [swp_swp] at this
  exact this
/-! ### straight between neighbors -/
def Aff (h : Rat → Rat) (a b : Rat) : Prop := ∃ m, ∀ x, a ≤ x → x ≤ b → h x = h a + (x - a) * m
theorem go_aff {p : Pnt} {r : List Pnt} (hr : Ris (p :: r)) {a b : Rat} (hab : a ≤ b) (ha : p.1 ≤ a) (hn : ∀ q ∈ r, ¬ (a < q.1 ∧ q.1 < b)) : Aff (goQ p r) a b := by
  induction r generalizing p with
  | nil => exact ⟨1, fun x _ _ => by rw [go_nil, go_nil]; grind⟩
  | cons q r ih =>
    by_cases c : q.1 ≤ a
    · obtain ⟨m, hm⟩ := ih hr.2 c (fun z hz => hn z (List.mem_cons_of_mem _ hz))
      refine ⟨m, fun x h1 h2 => ?_⟩
      rw [go_cons, if_neg (by grind), go_cons, if_neg (by grind)]
      exact hm x h1 h2
    · have hb : b ≤ q.1 := by
        have := hn q (by simp)
        grind
      have ln := slp_line hr.1.1 q.1
      have val : ∀ x, x ≤ q.1 → goQ p (q :: r) x = p.2 + (x - p.1) * slp p q := by
        intro x hx
        by_cases c2 : x < q.1
        · rw [go_cons, if_pos c2, seg hr.1.1]
        · have : x = q.1 := by grind
          rw [this, go_cons, if_neg (by grind), go_at hr.2]
          grind
      refine ⟨slp p q, fun x h1 h2 => ?_⟩
      rw [val x (by grind), val a (by grind)]
      grind
theorem led_aff {ps : List Pnt} (hr : Ris ps) {a b : Rat} (hab : a ≤ b) (hn : ∀ q ∈ ps, ¬ (a < q.1 ∧ q.1 < b)) : Aff (ledR ps) a b := by
  cases ps with
  | nil => exact ⟨1, fun x _ _ => by show x = a + (x - a) * 1; grind⟩
  | cons p r =>
    by_cases c : p.1 ≤ a
    · obtain ⟨m, hm⟩ := go_aff hr hab c (fun z hz => hn z (List.mem_cons_of_mem _ hz))
      refine ⟨m, fun x h1 h2 => ?_⟩
      rw [led_cons, if_neg (by grind), led_cons, if_neg (by grind)]
      exact hm x h1 h2
    · have hb : b ≤ p.1 := by
        have := hn p (by simp)
        grind
      have val : ∀ x, x ≤ p.1 → ledR (p :: r) x = p.2 + (x - p.1) := by
        intro x hx
        by_cases c2 : x < p.1
        · rw [led_cons, if_pos c2]
        · have : x = p.1 := by grind
          rw [this, led_cons, if_neg (by grind), go_at hr]
          grind
      refine ⟨1, fun x h1 h2 => ?_⟩
      rw [val x (by grind), val a (by grind)]
      grind
/-- far left and far right it rises by one for each one -/
theorem led_left {ps : List Pnt} (hr : Ris ps) {a : Rat} (hn : ∀ q ∈ ps, a ≤ q.1) {x : Rat} (hx : x ≤ a) : ledR ps x = ledR ps a + (x - a) := by
  cases ps with
  | nil => show x = a + (x - a); grind
  | cons p r =>
    have ha := hn p (by simp)
    have val : ∀ x, x ≤ p.1 → ledR (p :: r) x = p.2 + (x - p.1) := by
      intro x hx
      by_cases c2 : x < p.1
      · rw [led_cons, if_pos c2]
      · have : x = p.1 := by grind
        rw [this, led_cons, if_neg (by grind), go_at hr]
        grind
    rw [val x (by grind), val a ha]
    grind
theorem go_right {p : Pnt} {r : List Pnt} (hr : Ris (p :: r)) {b : Rat} (hn : ∀ q ∈ p :: r, q.1 ≤ b) {x : Rat} (hx : b ≤ x) : goQ p r x = goQ p r b + (x - b) := by
  induction r generalizing p with
  | nil => rw [go_nil, go_nil]; grind
  | cons q r ih =>
    have hq := hn q (by simp)
    rw [go_cons, if_neg (by grind), go_cons, if_neg (by grind)]
    exact ih hr.2 (fun z hz => hn z (List.mem_cons_of_mem _ hz))
theorem led_right {ps : List Pnt} (hr : Ris ps) {b : Rat} (hn : ∀ q ∈ ps, q.1 ≤ b) {x : Rat} (hx : b ≤ x) : ledR ps x = ledR ps b + (x - b) := by
  cases ps with
  | nil => show x = b + (x - b); grind
  | cons p r =>
    have hb := hn p (by simp)
    rw [led_cons, if_neg (by grind), led_cons, if_neg (by grind)]
    exact go_right hr hn hx
/-! ### a map by its values at some places -/
def pts (h : Rat → Rat) (xs : List Rat) : List Pnt := xs.map fun x => (x, h x)
def Asc (xs : List Rat) : Prop := xs.Pairwise (· < ·)
theorem go_interp {h : Rat → Rat} {x0 : Rat} {r : List Rat} (hs : Asc (x0 :: r)) (haff : ∀ a b, a ∈ x0 :: r → b ∈ x0 :: r → a < b → (∀ z ∈ x0 :: r, ¬ (a < z ∧ z < b)) → Aff h a b)
    (hR : ∀ b, b ∈ x0 :: r → (∀ z ∈ x0 :: r, z ≤ b) → ∀ x, b ≤ x → h x = h b + (x - b)) {x : Rat} (hx : x0 ≤ x) : goQ (x0, h x0) (pts h r) x = h x := by
  induction r generalizing x0 with
  | nil =>
    show h x0 + (x - x0) = h x
    rw [hR x0 (by simp) (fun z hz => by rw [List.mem_singleton.mp hz]; exact Rat.le_refl) x hx]
  | cons y r ih =>
    have hxy : x0 < y := (List.pairwise_cons.mp hs).1 y (by simp)
    have hs2 : Asc (y :: r) := (List.pairwise_cons.mp hs).2
    have hlow : ∀ z ∈ y :: r, y ≤ z := fun z hz => by
      rcases List.mem_cons.mp hz with rfl | hz
      · exact Rat.le_refl
      · have := (List.pairwise_cons.mp hs2).1 z hz
        grind
    show goQ (x0, h x0) ((y, h y) :: pts h r) x = h x
    rw [go_cons]
    by_cases c : x < y
    · rw [if_pos (by exact c)]
      obtain ⟨m, hm⟩ := haff x0 y (by simp) (by simp) hxy (fun z hz => by
        rcases List.mem_cons.mp hz with rfl | hz
        · grind
        · have := hlow z hz
          grind)
      have e1 := hm x hx (by grind)
      have e2 := hm y (by grind) Rat.le_refl
      show h x0 + (x - x0) / (y - x0) * (h y - h x0) = h x
      rw [e1, e2]
      have : y - x0 ≠ 0 := by grind
      grind
    · rw [if_neg (by exact c)]
      refine ih hs2 (fun a b ha hb hab hn => haff a b (List.mem_cons_of_mem _ ha) (List.mem_cons_of_mem _ hb) hab fun z hz => ?_) (fun b hb hm x hx => hR b (List.mem_cons_of_mem _ hb) (fun z hz => ?_) x hx) (by grind)
      · rcases List.mem_cons.mp hz with rfl | hz
        · have := hlow a ha
          grind
        · exact hn z hz
      · rcases List.mem_cons.mp hz with rfl | hz
        · have := hlow b hb
          grind
        · exact hm z hz
theorem led_interp {h : Rat → Rat} {xs : List Rat} (hne : xs ≠ []) (hs : Asc xs) (haff : ∀ a b, a ∈ xs → b ∈ xs → a < b → (∀ z ∈ xs, ¬ (a < z ∧ z < b)) → Aff h a b)
    (hL : ∀ a, a ∈ xs → (∀ z ∈ xs, a ≤ z) → ∀ x, x ≤ a → h x = h a + (x - a)) (hR : ∀ b, b ∈ xs → (∀ z ∈ xs, z ≤ b) → ∀ x, b ≤ x → h x = h b + (x - b)) (x : Rat) : ledR (pts h xs) x = h x := by
  cases xs with
  | nil => exact absurd rfl hne
  | cons x0 r =>
    show ledR ((x0, h x0) :: pts h r) x = h x
    rw [led_cons]
    by_cases c : x < x0
    · rw [if_pos (by exact c)]
      show h x0 + (x - x0) = h x
      rw [hL x0 (by simp) (fun z hz => by
        rcases List.mem_cons.mp hz with rfl | hz
        · exact Rat.le_refl
        · have := (List.pairwise_cons.mp hs).1 z hz
          grind) x (by grind)]
    · rw [if_neg (by exact c)]
      exact go_interp hs haff hR (by grind)
theorem pts_ris {h : Rat → Rat} {xs : List Rat} (hs : Asc xs) (hm : ∀ x y, x < y → h x < h y) : Ris (pts h xs) := by
  induction xs with
  | nil => trivial
  | cons x r ih =>
    refine ris_of (fun q hq => ?_) (ih (List.pairwise_cons.mp hs).2)
    obtain ⟨y, hy, rfl⟩ := List.mem_map.mp hq
    have := (List.pairwise_cons.mp hs).1 y hy
    exact ⟨this, hm _ _ this⟩
/-- one map behind the other, by its values at the places where either bends -/
theorem led_then {ps qs : List Pnt} (hp : Ris ps) (hq : Ris qs) {xs : List Rat} (hs : Asc xs) (h1 : ∀ p ∈ ps, p.1 ∈ xs) (h2 : ∀ q ∈ qs, ledR (ps.map swp) q.1 ∈ xs) (x : Rat) :
    ledR (pts (fun x => ledR qs (ledR ps x)) xs) x = ledR qs (ledR ps x) := by
  by_cases hne : xs = []
  · subst hne
    have e1 : ps = [] := by
      cases ps with
      | nil => rfl
      | cons p r => exact absurd (h1 p (by simp)) (by simp)
    have e2 : qs = [] := by
      cases qs with
      | nil => rfl
      | cons p r => exact absurd (h2 p (by simp)) (by simp)
    subst e1 e2
    rfl
  · refine led_interp hne hs (fun a b ha hb hab hn => ?_) (fun a ha hmin x hx => ?_) (fun b hb hmax x hx => ?_) x
    · obtain ⟨m1, hm1⟩ := led_aff hp (a := a) (b := b) (by grind) (fun p hpm z => hn _ (h1 p hpm) z)
      obtain ⟨m2, hm2⟩ := led_aff hq (a := ledR ps a) (b := ledR ps b) ((led_le hp).mpr (by grind)) (fun q hqm z => by
        refine hn _ (h2 q hqm) ⟨?_, ?_⟩
        · rw [← led_lt hp, led_swp' hp]; exact z.1
        · rw [← led_lt hp, led_swp' hp]; exact z.2)
      refine ⟨m1 * m2, fun y y1 y2 => ?_⟩
      show ledR qs (ledR ps y) = ledR qs (ledR ps a) + (y - a) * (m1 * m2)
      rw [hm2 (ledR ps y) ((led_le hp).mpr y1) ((led_le hp).mpr y2), hm1 y y1 y2]
      grind
    · show ledR qs (ledR ps x) = ledR qs (ledR ps a) + (x - a)
      have e := led_left hp (fun q hqm => hmin _ (h1 q hqm)) hx
      rw [led_left hq (a := ledR ps a) (fun q hqm => by
        have := hmin _ (h2 q hqm)
        rw [← led_le hp, led_swp' hp] at this
        exact this) ((led_le hp).mpr hx), e]
      grind
    · show ledR qs (ledR ps x) = ledR qs (ledR ps b) + (x - b)
      have e := led_right hp (fun q hqm => hmax _ (h1 q hqm)) hx
      rw [led_right hq (b := ledR ps b) (fun q hqm => by
        have := hmax _ (h2 q hqm)
        rw [← led_le hp, led_swp' hp] at this
        exact this) ((led_le hp).mpr hx), e]
      grind
/-! ### the pace of the inverse -/
theorem out_swp {p : Pnt} {r : List Pnt} (hr : Ris (p :: r)) : outS (swp p) (r.map swp) = 1 / outS p r := by
  cases r with
  | nil => show (1 : Rat) = 1 / 1; grind
  | cons q r =>
    show slp (swp p) (swp q) = 1 / slp p q
    unfold slp swp
    have h1 : q.2 - p.2 ≠ 0 := by have := hr.1.2; grind
    have h2 : q.1 - p.1 ≠ 0 := by have := hr.1.1; grind
    show (q.1 - p.1) / (q.2 - p.2) = 1 / ((q.2 - p.2) / (q.1 - p.1))
    grind
theorem pace_swp {l : List Pnt} (hr : Ris l) {m x y : Rat} (h : ∀ p ∈ l, p.2 ≤ y ↔ p.1 ≤ x) : paceR (1 / m) (l.map swp) y = 1 / paceR m l x := by
  induction l generalizing m with
  | nil => rfl
  | cons p r ih =>
    show (if p.2 ≤ y then paceR (outS (swp p) (r.map swp)) (r.map swp) y else 1 / m) = 1 / (if p.1 ≤ x then paceR (outS p r) r x else m)
    have hp := h p (by simp)
    by_cases c : p.1 ≤ x
    · rw [if_pos c, if_pos (hp.mpr c), out_swp hr]
      exact ih hr.tail fun q hq => h q (List.mem_cons_of_mem _ hq)
    · rw [if_neg c, if_neg (fun z => c (hp.mp z))]
theorem pace_inv {ps : List Pnt} (hr : Ris ps) (x : Rat) : paceR 1 (ps.map swp) (ledR ps x) = 1 / paceR 1 ps x := by
  have e : (1 : Rat) = 1 / 1 := by grind
  have := pace_swp hr (m := 1) (x := x) (y := ledR ps x) fun p hp => by rw [← led_pt hr hp, led_le hr]
  rw [← e] at this
  exact this
theorem pace_same {ps qs : List Pnt} (hp : Ris ps) (hq : Ris qs) (h : ∀ x, ledR ps x = ledR qs x) (x : Rat) : paceR 1 ps x = paceR 1 qs x := by
  rw [← pace_bends hp, ← pace_bends hq, same_bends hp hq h]
end PL

set_option maxHeartbeats 4000000
namespace PL
/-! ### ascending lists -/
def cntL (acc : List Rat) (a : Rat) : Nat := (acc.filter fun x => decide (x < a)).length
def insQ (acc : List Rat) (a : Rat) : List Rat := if a ∈ acc then acc else acc.take (cntL acc a) ++ [a] ++ acc.drop (cntL acc a)
def riseQ (l : List Rat) : List Rat := l.foldl insQ []
theorem cnt_split {acc : List Rat} (h : Asc acc) (a : Rat) : (∀ x ∈ acc.take (cntL acc a), x < a) ∧ (∀ x ∈ acc.drop (cntL acc a), a ≤ x) := by
  induction acc with
  | nil => exact ⟨fun x hx => by simp at hx, fun x hx => by simp at hx⟩
  | cons y r ih =>
    have h2 := List.pairwise_cons.mp h
    by_cases c : y < a
    · have e : cntL (y :: r) a = cntL r a + 1 := by
        unfold cntL
        rw [List.filter_cons, if_pos (by simpa using c)]
        rfl
      rw [e, List.take_succ_cons, List.drop_succ_cons]
      refine ⟨fun x hx => ?_, (ih h2.2).2⟩
      rcases List.mem_cons.mp hx with rfl | hx
      · exact c
      · exact (ih h2.2).1 x hx
    · have e : cntL (y :: r) a = 0 := by
        unfold cntL
        rw [List.length_eq_zero_iff, List.filter_eq_nil_iff]
        intro x hx
        rcases List.mem_cons.mp hx with rfl | hx
        · simpa using c
        · have := h2.1 x hx
          simp
          grind
      rw [e]
      refine ⟨fun x hx => by simp at hx, fun x hx => ?_⟩
      rcases List.mem_cons.mp hx with rfl | hx
      · grind
      · have := h2.1 x hx
        grind
theorem ins_asc {acc : List Rat} (h : Asc acc) (a : Rat) : Asc (insQ acc a) := by
  unfold insQ
  split
  · exact h
  · rename_i hn
    obtain ⟨h1, h2⟩ := cnt_split h a
    have hs : Asc (acc.take (cntL acc a) ++ acc.drop (cntL acc a)) := by rw [List.take_append_drop]; exact h
    obtain ⟨s1, s2, s3⟩ := List.pairwise_append.mp hs
    refine List.pairwise_append.mpr ⟨List.pairwise_append.mpr ⟨s1, List.pairwise_singleton _ _, fun x hx y hy => ?_⟩, s2, fun x hx y hy => ?_⟩
    · rw [List.mem_singleton.mp hy]
      exact h1 x hx
    · rcases List.mem_append.mp hx with hx | hx
      · exact s3 x hx y hy
      · rw [List.mem_singleton.mp hx]
        have h3 := h2 y hy
        have h4 : y ≠ a := fun z => hn (by rw [← z]; exact List.mem_of_mem_drop hy)
        grind
theorem ins_mem {acc : List Rat} {a x : Rat} : x ∈ insQ acc a ↔ x ∈ acc ∨ x = a := by
  unfold insQ
  split
  · rename_i h
    constructor
    · exact .inl
    · rintro (h1 | rfl)
      · exact h1
      · exact h
  · have e : x ∈ acc ↔ x ∈ acc.take (cntL acc a) ∨ x ∈ acc.drop (cntL acc a) := by
      conv => lhs; rw [← List.take_append_drop (cntL acc a) acc]
      exact List.mem_append
    simp only [List.mem_append, List.mem_singleton]
    rw [e]
    grind
theorem rise_step (l : List Rat) (a : Rat) : riseQ (l ++ [a]) = insQ (riseQ l) a := by
  unfold riseQ
  rw [List.foldl_append]
  rfl
theorem rise_fold (l acc : List Rat) (h : Asc acc) : Asc (l.foldl insQ acc) ∧ ∀ x, x ∈ l.foldl insQ acc ↔ x ∈ acc ∨ x ∈ l := by
  induction l generalizing acc with
  | nil => exact ⟨h, fun x => by simp⟩
  | cons a r ih =>
    obtain ⟨h1, h2⟩ := ih (insQ acc a) (ins_asc h a)
    refine ⟨h1, fun x => ?_⟩
    show x ∈ r.foldl insQ (insQ acc a) ↔ _
    rw [h2 x, ins_mem, List.mem_cons]
    grind
theorem rise_asc (l : List Rat) : Asc (riseQ l) := (rise_fold l [] List.Pairwise.nil).1
theorem rise_mem (l : List Rat) (x : Rat) : x ∈ riseQ l ↔ x ∈ l := by
  have := (rise_fold l [] List.Pairwise.nil).2 x
  show x ∈ l.foldl insQ [] ↔ x ∈ l
  rw [this]
  simp
theorem rise_len (l : List Rat) : (riseQ l).length ≤ l.length := by
  have : ∀ (l acc : List Rat), (l.foldl insQ acc).length ≤ acc.length + l.length := by
    intro l
    induction l with
    | nil => intro acc; exact Nat.le_refl _
    | cons a r ih =>
      intro acc
      have h1 := ih (insQ acc a)
      have h2 : (insQ acc a).length ≤ acc.length + 1 := by
        unfold insQ
        split
        · omega
        · simp only [List.length_append, List.length_take, List.length_drop, List.length_cons, List.length_nil]
          omega
      show (r.foldl insQ (insQ acc a)).length ≤ acc.length + (r.length + 1)
      omega
  have := this l []
  simpa [riseQ] using this
end PL

namespace PL
/-- an ascending list is told by its members -/
theorem asc_uniq : ∀ {l r : List Rat}, Asc l → Asc r → (∀ x, x ∈ l ↔ x ∈ r) → l = r
  | [], [], _, _, _ => rfl
  | [], y :: r, _, _, h => absurd ((h y).mpr (by simp)) (by simp)
  | x :: l, [], _, _, h => absurd ((h x).mp (by simp)) (by simp)
  | x :: l, y :: r, hl, hr, h => by
    have h1 : ∀ z ∈ l, x < z := (List.pairwise_cons.mp hl).1
    have h2 : ∀ z ∈ r, y < z := (List.pairwise_cons.mp hr).1
    have e : x = y := by
      rcases List.mem_cons.mp ((h x).mp (by simp)) with e | e
      · exact e
      · rcases List.mem_cons.mp ((h y).mpr (by simp)) with e' | e'
        · exact e'.symm
        · have := h1 y e'
          have := h2 x e
          grind
    subst e
    have := asc_uniq (List.pairwise_cons.mp hl).2 (List.pairwise_cons.mp hr).2 fun z => by
      constructor
      · intro hz
        rcases List.mem_cons.mp ((h z).mp (List.mem_cons_of_mem _ hz)) with e | e
        · have := h1 z hz
          grind
        · exact e
      · intro hz
        rcases List.mem_cons.mp ((h z).mpr (List.mem_cons_of_mem _ hz)) with e | e
        · have := h2 z hz
          grind
        · exact e
    rw [this]
theorem asc_snoc {l : List Rat} {a : Rat} (h : Asc l) (ha : ∀ x ∈ l, x < a) : Asc (l ++ [a]) := by
  unfold Asc at *
  rw [List.pairwise_append]
  refine ⟨h, by simp, fun x hx y hy => ?_⟩
  rw [List.mem_singleton.mp hy]
  exact ha x hx
/-- the lowest of the rest is taken out and put behind what is found -/
def Tk (B fs bl : List Rat) : Prop := Asc fs ∧ (∀ x ∈ fs, ∀ y ∈ bl, x < y) ∧ ∀ x, (x ∈ fs ∨ x ∈ bl) ↔ x ∈ B
theorem Tk.step {B fs bl : List Rat} {a : Rat} (h : Tk B fs bl) (ha : a ∈ bl) (hl : ∀ x ∈ bl, a ≤ x) : Tk B (fs ++ [a]) (bl.filter fun x => decide (x ≠ a)) ∧ (bl.filter fun x => decide (x ≠ a)).length < bl.length := by
  obtain ⟨h1, h2, h3⟩ := h
  refine ⟨⟨asc_snoc h1 fun x hx => h2 x hx a ha, fun x hx y hy => ?_, fun x => ?_⟩, ?_⟩
  · obtain ⟨hy1, hy2⟩ := List.mem_filter.mp hy
    have hy2 : y ≠ a := of_decide_eq_true hy2
    rcases List.mem_append.mp hx with hx | hx
    · exact h2 x hx y hy1
    · rw [List.mem_singleton.mp hx]
      have := hl y hy1
      grind
  · rw [← h3 x, List.mem_append, List.mem_singleton, List.mem_filter]
    by_cases c : x = a
    · subst c
      simp [ha]
    · simp [c]
  · apply Nat.lt_of_le_of_ne (List.length_filter_le _ _)
    intro e
    have := List.length_filter_eq_length_iff.mp e a ha
    simp at this
theorem Tk.done {B fs : List Rat} (h : Tk B fs []) : fs = riseQ B := asc_uniq h.1 (rise_asc B) fun x => by
  rw [rise_mem, ← h.2.2 x]
  simp
theorem Tk.start (B : List Rat) : Tk B [] B := ⟨List.Pairwise.nil, (fun _ h => nomatch h), fun x => by simp⟩
end PL

namespace PL
/-- bends that tell the map f -/
structure CM (bs : List Pnt) (f : Rat → Rat) : Prop where
  ris : Ris bs
  can : bendF bs = bs
  ne : bs ≠ []
  val : ∀ x, ledR bs x = f x
def Inv (f g : Rat → Rat) : Prop := ∀ x, g (f x) = x ∧ f (g x) = x
theorem CM.of {ps : List Pnt} {f : Rat → Rat} (h : Ris ps) (hf : ∀ x, ledR ps x = f x) : CM (bendF ps) f := ⟨bendF_ris h, bends_bends h, bendF_ne ps, fun x => by rw [led_bends h, hf]⟩
theorem CM.eq {bs cs : List Pnt} {f g : Rat → Rat} (h : CM bs f) (k : CM cs g) (e : ∀ x, f x = g x) : bs = cs := by
  rw [← h.can, ← k.can]
  exact same_bends h.ris k.ris fun x => by rw [h.val, k.val, e]
theorem inv_led {ps : List Pnt} (h : Ris ps) : Inv (ledR ps) (ledR (ps.map swp)) := fun x => ⟨led_swp h x, led_swp' h x⟩
theorem CM.swp_val {bs : List Pnt} {f g : Rat → Rat} (h : CM bs f) (i : Inv f g) (y : Rat) : ledR (bs.map swp) y = g y := by
  have e : f (ledR (bs.map swp) y) = y := by rw [← h.val]; exact led_swp' h.ris y
  rw [← (i (ledR (bs.map swp) y)).1, e]
theorem CM.inv {bs : List Pnt} {f g : Rat → Rat} (h : CM bs f) (i : Inv f g) : CM (bendF (bs.map swp)) g := CM.of (ris_swp h.ris) (h.swp_val i)
theorem CM.pt {bs : List Pnt} {f : Rat → Rat} (h : CM bs f) {p : Pnt} (hp : p ∈ bs) : f p.1 = p.2 := by rw [← h.val]; exact led_pt h.ris hp
theorem CM.pt' {bs : List Pnt} {f g : Rat → Rat} (h : CM bs f) (i : Inv f g) {p : Pnt} (hp : p ∈ bs) : g p.2 = p.1 := by rw [← h.pt hp]; exact (i p.1).1
/-- the places of two maps, one behind the other -/
def plc (bs cs : List Pnt) : List Rat := riseQ (bs.map (·.1) ++ cs.map fun q => ledR (bs.map swp) q.1)
theorem mem_plc {bs cs : List Pnt} {x : Rat} (h : x ∈ plc bs cs) : (∃ p ∈ bs, x = p.1) ∨ ∃ q ∈ cs, x = ledR (bs.map swp) q.1 := by
  rcases List.mem_append.mp ((rise_mem _ x).mp h) with h | h
  · obtain ⟨p, hp, rfl⟩ := List.mem_map.mp h
    exact .inl ⟨p, hp, rfl⟩
  · obtain ⟨p, hp, rfl⟩ := List.mem_map.mp h
    exact .inr ⟨p, hp, rfl⟩
theorem then_ris {ps qs : List Pnt} (hp : Ris ps) (hq : Ris qs) : Ris (pts (fun x => ledR qs (ledR ps x)) (plc ps qs)) := pts_ris (rise_asc _) fun x y h => led_mono hq (led_mono hp h)
theorem then_val {ps qs : List Pnt} (hp : Ris ps) (hq : Ris qs) (x : Rat) : ledR (pts (fun x => ledR qs (ledR ps x)) (plc ps qs)) x = ledR qs (ledR ps x) := by
  refine led_then hp hq (rise_asc _) (fun p h => (rise_mem _ _).mpr (List.mem_append_left _ (List.mem_map.mpr ⟨p, h, rfl⟩))) (fun q h => (rise_mem _ _).mpr (List.mem_append_right _ (List.mem_map.mpr ⟨q, h, rfl⟩))) x
theorem CM.thn {bs cs : List Pnt} {f g : Rat → Rat} (h : CM bs f) (k : CM cs g) : CM (bendF (pts (fun x => ledR cs (ledR bs x)) (plc bs cs))) (fun x => g (f x)) :=
  CM.of (then_ris h.ris k.ris) fun x => by rw [then_val h.ris k.ris, h.val, k.val]
theorem Inv.symm {f g : Rat → Rat} (h : Inv f g) : Inv g f := fun x => ⟨(h x).2, (h x).1⟩
theorem Inv.thn {f fi g gi : Rat → Rat} (h : Inv f fi) (k : Inv g gi) : Inv (fun x => g (f x)) (fun x => fi (gi x)) := fun x => ⟨by show fi (gi (g (f x))) = x; rw [(k (f x)).1, (h x).1], by show g (f (fi (gi x))) = x; rw [(h (gi x)).2, (k x).2]⟩
theorem plc_len (bs cs : List Pnt) : (plc bs cs).length ≤ bs.length + cs.length := by
  have := rise_len (bs.map (·.1) ++ cs.map fun q => ledR (bs.map swp) q.1)
  rw [List.length_append, List.length_map, List.length_map] at this
  exact this
theorem bendR_len : ∀ (m : Rat) (l : List Pnt), (bendR m l).length ≤ l.length := by
  intro m l
  induction l generalizing m with
  | nil => exact Nat.le_refl _
  | cons p r ih =>
    by_cases c : m = outS p r
    · rw [bend_eq c]
      exact Nat.le_trans (ih _) (by simp)
    · rw [bend_ne c]
      simpa using ih _
theorem bendF_len (l : List Pnt) : (bendF l).length ≤ l.length + 1 := by
  unfold bendF
  split
  · simp
  · exact Nat.le_trans (bendR_len 1 l) (by simp)
/-- a bend is a point, or lies at 0 -/
theorem bendF_mem {l : List Pnt} {q : Pnt} (h : q ∈ bendF l) : q ∈ l ∨ q = (0, ledR l 0) := by
  unfold bendF at h
  split at h
  · exact .inr (List.mem_singleton.mp h)
  · exact .inl (bend_mem h)
/-- paces are slopes or 1 -/
theorem pace_of : ∀ (l : List Pnt) (m x : Rat), paceR m l x = m ∨ paceR m l x = 1 ∨ ∃ p q, p ∈ l ∧ q ∈ l ∧ paceR m l x = slp p q
  | [], m, x => .inl rfl
  | [p], m, x => by
    show (if p.1 ≤ x then _ else m) = m ∨ _
    by_cases c : p.1 ≤ x
    · refine .inr (.inl ?_)
      show (if p.1 ≤ x then _ else m) = 1
      rw [if_pos c]
      rfl
    · exact .inl (by rw [if_neg c])
  | p :: q :: r, m, x => by
    have e : paceR m (p :: q :: r) x = if p.1 ≤ x then paceR (slp p q) (q :: r) x else m := rfl
    rw [e]
    by_cases c : p.1 ≤ x
    · rw [if_pos c]
      rcases pace_of (q :: r) (slp p q) x with h | h | ⟨a, b, ha, hb, h⟩
      · exact .inr (.inr ⟨p, q, by simp, by simp, h⟩)
      · exact .inr (.inl h)
      · exact .inr (.inr ⟨a, b, List.mem_cons_of_mem _ ha, List.mem_cons_of_mem _ hb, h⟩)
    · rw [if_neg c]
      exact .inl rfl
theorem pace_pos : ∀ {l : List Pnt} {m x : Rat}, Ris l → 0 < m → 0 < paceR m l x
  | [], m, x, _, hm => hm
  | [p], m, x, _, hm => by
    show 0 < (if p.1 ≤ x then _ else m)
    by_cases c : p.1 ≤ x
    · rw [if_pos c]
      show (0 : Rat) < 1
      decide
    · rw [if_neg c]
      exact hm
  | p :: q :: r, m, x, h, hm => by
    have e : paceR m (p :: q :: r) x = if p.1 ≤ x then paceR (slp p q) (q :: r) x else m := rfl
    rw [e]
    by_cases c : p.1 ≤ x
    · rw [if_pos c]
      exact pace_pos h.2 (slp_pos h.1)
    · rw [if_neg c]
      exact hm
end PL

set_option maxHeartbeats 4000000
namespace K09
open PySem PySem.Spec PyProof.Rows L2 AT
/-! the text by places -/
def top (i : Nat) : Stmt := PySem.Challenge.pw_anytempo_k09_maps_there_and_back.main.body.getD i (.Pass ⟨0, 0, 0, 0⟩)
abbrev s_InvalidInteger_init_ : Stmt := inClass (top 2) 0
def d_InvalidInteger_init_ : FD := fdOf (fun K => He.ma K (He.ga K "InvalidInteger") "__init__") "__init__" "InvalidInteger.__init__" s_InvalidInteger_init_
abbrev s_InvalidAmount_init_ : Stmt := inClass (top 3) 0
def d_InvalidAmount_init_ : FD := fdOf (fun K => He.ma K (He.ga K "InvalidAmount") "__init__") "__init__" "InvalidAmount.__init__" s_InvalidAmount_init_
abbrev s_InvalidPart_init_ : Stmt := inClass (top 4) 0
def d_InvalidPart_init_ : FD := fdOf (fun K => He.ma K (He.ga K "InvalidPart") "__init__") "__init__" "InvalidPart.__init__" s_InvalidPart_init_
abbrev s_InvalidMap_init_ : Stmt := inClass (top 5) 0
def d_InvalidMap_init_ : FD := fdOf (fun K => He.ma K (He.ga K "InvalidMap") "__init__") "__init__" "InvalidMap.__init__" s_InvalidMap_init_
abbrev s_InvalidPoint_init_ : Stmt := inClass (top 6) 0
def d_InvalidPoint_init_ : FD := fdOf (fun K => He.ma K (He.ga K "InvalidPoint") "__init__") "__init__" "InvalidPoint.__init__" s_InvalidPoint_init_
abbrev s_Falling_init_ : Stmt := inClass (top 7) 0
def d_Falling_init_ : FD := fdOf (fun K => He.ma K (He.ga K "Falling") "__init__") "__init__" "Falling.__init__" s_Falling_init_
abbrev s_is_whole : Stmt := top 9
def d_is_whole : FD := fdOf (fun K => He.ga K "is_whole") "is_whole" "is_whole" s_is_whole
abbrev s_is_list : Stmt := top 10
def d_is_list : FD := fdOf (fun K => He.ga K "is_list") "is_list" "is_list" s_is_list
abbrev s_is_row : Stmt := top 11
def d_is_row : FD := fdOf (fun K => He.ga K "is_row") "is_row" "is_row" s_is_row
abbrev s_common_factor : Stmt := top 13
def d_common_factor : FD := fdOf (fun K => He.ga K "common_factor") "common_factor" "common_factor" s_common_factor
abbrev s_Amount_init_ : Stmt := inClass (top 14) 0
def d_Amount_init_ : FD := fdOf (fun K => He.ma K (He.ga K "Amount") "__init__") "__init__" "Amount.__init__" s_Amount_init_ [.int 1]
abbrev s_Amount_top : Stmt := inClass (top 14) 1
def d_Amount_top : FD := fdOf (propAt "Amount" "top") "top" "Amount.top" s_Amount_top
abbrev s_Amount_bottom : Stmt := inClass (top 14) 2
def d_Amount_bottom : FD := fdOf (propAt "Amount" "bottom") "bottom" "Amount.bottom" s_Amount_bottom
abbrev s_Amount_eq_ : Stmt := inClass (top 14) 3
def d_Amount_eq_ : FD := fdOf (fun K => He.ma K (He.ga K "Amount") "__eq__") "__eq__" "Amount.__eq__" s_Amount_eq_
abbrev s_Amount_add_ : Stmt := inClass (top 14) 4
def d_Amount_add_ : FD := fdOf (fun K => He.ma K (He.ga K "Amount") "__add__") "__add__" "Amount.__add__" s_Amount_add_
abbrev s_Amount_sub_ : Stmt := inClass (top 14) 5
def d_Amount_sub_ : FD := fdOf (fun K => He.ma K (He.ga K "Amount") "__sub__") "__sub__" "Amount.__sub__" s_Amount_sub_
abbrev s_Amount_mul_ : Stmt := inClass (top 14) 6
def d_Amount_mul_ : FD := fdOf (fun K => He.ma K (He.ga K "Amount") "__mul__") "__mul__" "Amount.__mul__" s_Amount_mul_
abbrev s_Amount_divided : Stmt := inClass (top 14) 7
def d_Amount_divided : FD := fdOf (fun K => He.ma K (He.ga K "Amount") "divided") "divided" "Amount.divided" s_Amount_divided
abbrev s_Amount_neg_ : Stmt := inClass (top 14) 8
def d_Amount_neg_ : FD := fdOf (fun K => He.ma K (He.ga K "Amount") "__neg__") "__neg__" "Amount.__neg__" s_Amount_neg_
abbrev s_Amount_abs_ : Stmt := inClass (top 14) 9
def d_Amount_abs_ : FD := fdOf (fun K => He.ma K (He.ga K "Amount") "__abs__") "__abs__" "Amount.__abs__" s_Amount_abs_
abbrev s_Amount_compare : Stmt := inClass (top 14) 10
def d_Amount_compare : FD := fdOf (fun K => He.ma K (He.ga K "Amount") "compare") "compare" "Amount.compare" s_Amount_compare
abbrev s_is_amount : Stmt := top 15
def d_is_amount : FD := fdOf (fun K => He.ga K "is_amount") "is_amount" "is_amount" s_is_amount
abbrev s_amount_from : Stmt := top 16
def d_amount_from : FD := fdOf (fun K => He.ga K "amount_from") "amount_from" "amount_from" s_amount_from
abbrev s_checked_points : Stmt := top 19
def d_checked_points : FD := fdOf (fun K => He.ga K "checked_points") "checked_points" "checked_points" s_checked_points
abbrev s_slope : Stmt := top 20
def d_slope : FD := fdOf (fun K => He.ga K "slope") "slope" "slope" s_slope
abbrev s_led : Stmt := top 21
def d_led : FD := fdOf (fun K => He.ga K "led") "led" "led" s_led
abbrev s_paces : Stmt := top 22
def d_paces : FD := fdOf (fun K => He.ga K "paces") "paces" "paces" s_paces
abbrev s_bends : Stmt := top 23
def d_bends : FD := fdOf (fun K => He.ga K "bends") "bends" "bends" s_bends
abbrev s_TempoMap_init_ : Stmt := inClass (top 24) 0
def d_TempoMap_init_ : FD := fdOf (fun K => He.ma K (He.ga K "TempoMap") "__init__") "__init__" "TempoMap.__init__" s_TempoMap_init_ [.adr (dflA (fun K => He.ma K (He.ga K "TempoMap") "__init__") 0)]
abbrev s_TempoMap_call_ : Stmt := inClass (top 24) 1
def d_TempoMap_call_ : FD := fdOf (fun K => He.ma K (He.ga K "TempoMap") "__call__") "__call__" "TempoMap.__call__" s_TempoMap_call_
abbrev s_TempoMap_beat_of : Stmt := inClass (top 24) 2
def d_TempoMap_beat_of : FD := fdOf (fun K => He.ma K (He.ga K "TempoMap") "beat_of") "beat_of" "TempoMap.beat_of" s_TempoMap_beat_of
abbrev s_TempoMap_pace : Stmt := inClass (top 24) 3
def d_TempoMap_pace : FD := fdOf (fun K => He.ma K (He.ga K "TempoMap") "pace") "pace" "TempoMap.pace" s_TempoMap_pace
abbrev s_TempoMap_points : Stmt := inClass (top 24) 4
def d_TempoMap_points : FD := fdOf (fun K => He.ma K (He.ga K "TempoMap") "points") "points" "TempoMap.points" s_TempoMap_points
abbrev s_TempoMap_inverse : Stmt := inClass (top 24) 5
def d_TempoMap_inverse : FD := fdOf (fun K => He.ma K (He.ga K "TempoMap") "inverse") "inverse" "TempoMap.inverse" s_TempoMap_inverse
abbrev s_TempoMap_then : Stmt := inClass (top 24) 6
def d_TempoMap_then : FD := fdOf (fun K => He.ma K (He.ga K "TempoMap") "then") "then" "TempoMap.then" s_TempoMap_then
abbrev s_TempoMap_eq_ : Stmt := inClass (top 24) 7
def d_TempoMap_eq_ : FD := fdOf (fun K => He.ma K (He.ga K "TempoMap") "__eq__") "__eq__" "TempoMap.__eq__" s_TempoMap_eq_
abbrev s_rising : Stmt := top 25
def d_rising : FD := fdOf (fun K => He.ga K "rising") "rising" "rising" s_rising
abbrev s_need_map : Stmt := top 26
def d_need_map : FD := fdOf (fun K => He.ga K "need_map") "need_map" "need_map" s_need_map
abbrev s_w_cell : Stmt := top 28
def d_w_cell : FD := fdOf (fun K => He.ga K "_law_cell") "_law_cell" "_law_cell" s_w_cell
abbrev s_w_bag : Stmt := top 29
def d_w_bag : FD := fdOf (fun K => He.ga K "_law_bag") "_law_bag" "_law_bag" s_w_bag
abbrev s_w_take : Stmt := top 30
def d_w_take : FD := fdOf (fun K => He.ga K "_law_take") "_law_take" "_law_take" s_w_take
abbrev s_w_frac : Stmt := top 31
def d_w_frac : FD := fdOf (fun K => He.ga K "_law_frac") "_law_frac" "_law_frac" s_w_frac
abbrev s_w_sum : Stmt := top 32
def d_w_sum : FD := fdOf (fun K => He.ga K "_law_sum") "_law_sum" "_law_sum" s_w_sum
abbrev s_w_less : Stmt := top 33
def d_w_less : FD := fdOf (fun K => He.ga K "_law_less") "_law_less" "_law_less" s_w_less
abbrev s_w_rest : Stmt := top 34
def d_w_rest : FD := fdOf (fun K => He.ga K "_law_rest") "_law_rest" "_law_rest" s_w_rest
abbrev s_w_product : Stmt := top 35
def d_w_product : FD := fdOf (fun K => He.ga K "_law_product") "_law_product" "_law_product" s_w_product
abbrev s_w_quotient : Stmt := top 36
def d_w_quotient : FD := fdOf (fun K => He.ga K "_law_quotient") "_law_quotient" "_law_quotient" s_w_quotient
abbrev s_w_fraction : Stmt := top 37
def d_w_fraction : FD := fdOf (fun K => He.ga K "_law_fraction") "_law_fraction" "_law_fraction" s_w_fraction
abbrev s_w_step : Stmt := top 38
def d_w_step : FD := fdOf (fun K => He.ga K "_law_step") "_law_step" "_law_step" s_w_step
abbrev s_w_given : Stmt := top 39
def d_w_given : FD := fdOf (fun K => He.ga K "_law_given") "_law_given" "_law_given" s_w_given
abbrev s_w_points : Stmt := top 40
def d_w_points : FD := fdOf (fun K => He.ga K "_law_points") "_law_points" "_law_points" s_w_points
abbrev s_w_led : Stmt := top 41
def d_w_led : FD := fdOf (fun K => He.ga K "_law_led") "_law_led" "_law_led" s_w_led
abbrev s_w_paces : Stmt := top 42
def d_w_paces : FD := fdOf (fun K => He.ga K "_law_paces") "_law_paces" "_law_paces" s_w_paces
abbrev s_w_bends : Stmt := top 43
def d_w_bends : FD := fdOf (fun K => He.ga K "_law_bends") "_law_bends" "_law_bends" s_w_bends
abbrev s_w_pair : Stmt := top 44
def d_w_pair : FD := fdOf (fun K => He.ga K "_law_pair") "_law_pair" "_law_pair" s_w_pair
abbrev s_w_pairs : Stmt := top 45
def d_w_pairs : FD := fdOf (fun K => He.ga K "_law_pairs") "_law_pairs" "_law_pairs" s_w_pairs
abbrev s_w_caught : Stmt := top 46
def d_w_caught : FD := fdOf (fun K => He.ga K "_law_caught") "_law_caught" "_law_caught" s_w_caught
abbrev s_w_made : Stmt := top 47
def d_w_made : FD := fdOf (fun K => He.ga K "_law_made") "_law_made" "_law_made" s_w_made
abbrev s_w_odd_right : Stmt := top 48
def d_w_odd_right : FD := fdOf (fun K => He.ga K "_law_odd_right") "_law_odd_right" "_law_odd_right" s_w_odd_right
abbrev s_w_pace : Stmt := top 49
def d_w_pace : FD := fdOf (fun K => He.ga K "_law_pace") "_law_pace" "_law_pace" s_w_pace
abbrev s_w_chained : Stmt := top 50
def d_w_chained : FD := fdOf (fun K => He.ga K "_law_chained") "_law_chained" "_law_chained" s_w_chained
abbrev s_w_points_right : Stmt := top 51
def d_w_points_right : FD := fdOf (fun K => He.ga K "_law_points_right") "_law_points_right" "_law_points_right" s_w_points_right
abbrev s_law : Stmt := top 52
def d_law : FD := fdOf (fun K => He.ga K "law") "law" "law" s_law
def fn : List FD := [d_InvalidInteger_init_, d_InvalidAmount_init_, d_InvalidPart_init_, d_InvalidMap_init_, d_InvalidPoint_init_, d_Falling_init_, d_is_whole, d_is_list, d_is_row, d_common_factor, d_Amount_init_, d_Amount_top, d_Amount_bottom, d_Amount_eq_, d_Amount_add_, d_Amount_sub_, d_Amount_mul_, d_Amount_divided, d_Amount_neg_, d_Amount_abs_, d_Amount_compare, d_is_amount, d_amount_from, d_checked_points, d_slope, d_led, d_paces, d_bends, d_TempoMap_init_, d_TempoMap_call_, d_TempoMap_beat_of, d_TempoMap_pace, d_TempoMap_points, d_TempoMap_inverse, d_TempoMap_then, d_TempoMap_eq_, d_rising, d_need_map, d_w_cell, d_w_bag, d_w_take, d_w_frac, d_w_sum, d_w_less, d_w_rest, d_w_product, d_w_quotient, d_w_fraction, d_w_step, d_w_given, d_w_points, d_w_led, d_w_paces, d_w_bends, d_w_pair, d_w_pairs, d_w_caught, d_w_made, d_w_odd_right, d_w_pace, d_w_chained, d_w_points_right, d_law]
def ex : Ex := [
  gloB "is_whole",
  gloB "is_list",
  gloB "is_row",
  gloB "common_factor",
  gloB "is_amount",
  gloB "amount_from",
  gloB "checked_points",
  gloB "slope",
  gloB "led",
  gloB "paces",
  gloB "bends",
  gloB "rising",
  gloB "need_map",
  gloB "_law_cell",
  gloB "_law_bag",
  gloB "_law_take",
  gloB "_law_frac",
  gloB "_law_sum",
  gloB "_law_less",
  gloB "_law_rest",
  gloB "_law_product",
  gloB "_law_quotient",
  gloB "_law_fraction",
  gloB "_law_step",
  gloB "_law_given",
  gloB "_law_points",
  gloB "_law_led",
  gloB "_law_paces",
  gloB "_law_bends",
  gloB "_law_pair",
  gloB "_law_pairs",
  gloB "_law_caught",
  gloB "_law_made",
  gloB "_law_odd_right",
  gloB "_law_pace",
  gloB "_law_chained",
  gloB "_law_points_right",
  gloB "law",
  gloB "CueError",
  gloB "InvalidInteger",
  gloB "InvalidAmount",
  gloB "InvalidPart",
  gloB "InvalidMap",
  gloB "InvalidPoint",
  gloB "Falling",
  gloB "Amount",
  gloB "TempoMap",
  freeB "NotImplemented",
  freeB "ValueError",
  freeB "abs",
  freeB "bool",
  freeB "enumerate",
  freeB "int",
  freeB "isinstance",
  freeB "len",
  freeB "list",
  freeB "max",
  freeB "min",
  freeB "property",
  freeB "range",
  freeB "repr",
  freeB "tuple",
  freeB "zip",
  conB "ONE" (.int 1),
  clsB "Amount",
  mkrB "Amount",
  insB "Amount",
  methB "Amount" "__init__",
  methB "Amount" "__eq__",
  methB "Amount" "__add__",
  methB "Amount" "__sub__",
  methB "Amount" "__mul__",
  methB "Amount" "divided",
  methB "Amount" "__neg__",
  methB "Amount" "__abs__",
  methB "Amount" "compare",
  noatB "Amount" "own_top",
  noatB "Amount" "own_bottom",
  propB "Amount" "top",
  propB "Amount" "bottom",
  kitB (fun _ => .type "NoneType") (fun K => .ref (He.ga K "Amount")) false,
  kitB (fun _ => .type "bool") (fun K => .ref (He.ga K "Amount")) false,
  kitB (fun _ => .type "int") (fun K => .ref (He.ga K "Amount")) false,
  kitB (fun _ => .type "str") (fun K => .ref (He.ga K "Amount")) false,
  kitB (fun _ => .type "list") (fun K => .ref (He.ga K "Amount")) false,
  kitB (fun _ => .type "tuple") (fun K => .ref (He.ga K "Amount")) false,
  kitB (fun _ => .type "dict") (fun K => .ref (He.ga K "Amount")) false,
  kitB (fun K => .ref (He.ga K "Amount")) (fun K => .ref (He.ga K "Amount")) true,
  kitB (fun K => .ref (He.ga K "Amount")) (fun K => .ref (He.ga K "TempoMap")) false,
  kitB (fun K => .ref (He.ga K "Amount")) (fun _ => .type "bool") false,
  kitB (fun K => .ref (He.ga K "Amount")) (fun _ => .type "int") false,
  kitB (fun K => .ref (He.ga K "Amount")) (fun _ => .type "str") false,
  kitB (fun K => .ref (He.ga K "Amount")) (fun _ => .type "list") false,
  kitB (fun K => .ref (He.ga K "Amount")) (fun _ => .type "tuple") false,
  kitB (fun K => .ref (He.ga K "Amount")) (fun _ => .type "dict") false,
  clsB "TempoMap",
  mkrB "TempoMap",
  insB "TempoMap",
  methB "TempoMap" "__init__",
  methB "TempoMap" "__call__",
  methB "TempoMap" "beat_of",
  methB "TempoMap" "pace",
  methB "TempoMap" "points",
  methB "TempoMap" "inverse",
  methB "TempoMap" "then",
  methB "TempoMap" "__eq__",
  noatB "TempoMap" "own_points",
  kitB (fun _ => .type "NoneType") (fun K => .ref (He.ga K "TempoMap")) false,
  kitB (fun _ => .type "bool") (fun K => .ref (He.ga K "TempoMap")) false,
  kitB (fun _ => .type "int") (fun K => .ref (He.ga K "TempoMap")) false,
  kitB (fun _ => .type "str") (fun K => .ref (He.ga K "TempoMap")) false,
  kitB (fun _ => .type "list") (fun K => .ref (He.ga K "TempoMap")) false,
  kitB (fun _ => .type "tuple") (fun K => .ref (He.ga K "TempoMap")) false,
  kitB (fun _ => .type "dict") (fun K => .ref (He.ga K "TempoMap")) false,
  kitB (fun K => .ref (He.ga K "TempoMap")) (fun K => .ref (He.ga K "TempoMap")) true,
  kitB (fun K => .ref (He.ga K "TempoMap")) (fun K => .ref (He.ga K "Amount")) false,
  kitB (fun K => .ref (He.ga K "TempoMap")) (fun _ => .type "bool") false,
  kitB (fun K => .ref (He.ga K "TempoMap")) (fun _ => .type "int") false,
  kitB (fun K => .ref (He.ga K "TempoMap")) (fun _ => .type "str") false,
  kitB (fun K => .ref (He.ga K "TempoMap")) (fun _ => .type "list") false,
  kitB (fun K => .ref (He.ga K "TempoMap")) (fun _ => .type "tuple") false,
  kitB (fun K => .ref (He.ga K "TempoMap")) (fun _ => .type "dict") false,
  fun K => baB K "CueError",
  fun K => xcB K "InvalidInteger" "value",
  fun K => xcB K "InvalidAmount" "value",
  fun K => xcB K "InvalidPart" "value",
  fun K => xcB K "InvalidMap" "value",
  fun K => xcB K "InvalidPoint" "value",
  fun K => xcB K "Falling" "index",
  exmB "InvalidInteger" "InvalidInteger" true,
  exmB "InvalidInteger" "InvalidAmount" false,
  exmB "InvalidInteger" "InvalidPart" false,
  exmB "InvalidInteger" "InvalidMap" false,
  exmB "InvalidInteger" "InvalidPoint" false,
  exmB "InvalidInteger" "Falling" false,
  exmB "InvalidAmount" "InvalidInteger" false,
  exmB "InvalidAmount" "InvalidAmount" true,
  exmB "InvalidAmount" "InvalidPart" false,
  exmB "InvalidAmount" "InvalidMap" false,
  exmB "InvalidAmount" "InvalidPoint" false,
  exmB "InvalidAmount" "Falling" false,
  exmB "InvalidPart" "InvalidInteger" false,
  exmB "InvalidPart" "InvalidAmount" false,
  exmB "InvalidPart" "InvalidPart" true,
  exmB "InvalidPart" "InvalidMap" false,
  exmB "InvalidPart" "InvalidPoint" false,
  exmB "InvalidPart" "Falling" false,
  exmB "InvalidMap" "InvalidInteger" false,
  exmB "InvalidMap" "InvalidAmount" false,
  exmB "InvalidMap" "InvalidPart" false,
  exmB "InvalidMap" "InvalidMap" true,
  exmB "InvalidMap" "InvalidPoint" false,
  exmB "InvalidMap" "Falling" false,
  exmB "InvalidPoint" "InvalidInteger" false,
  exmB "InvalidPoint" "InvalidAmount" false,
  exmB "InvalidPoint" "InvalidPart" false,
  exmB "InvalidPoint" "InvalidMap" false,
  exmB "InvalidPoint" "InvalidPoint" true,
  exmB "InvalidPoint" "Falling" false,
  exmB "Falling" "InvalidInteger" false,
  exmB "Falling" "InvalidAmount" false,
  exmB "Falling" "InvalidPart" false,
  exmB "Falling" "InvalidMap" false,
  exmB "Falling" "InvalidPoint" false,
  exmB "Falling" "Falling" true,
  excsB "InvalidInteger",
  kitB (fun K => .ref (He.ga K "InvalidInteger")) (fun K => .ref (He.ga K "CueError")) true,
  excsB "InvalidAmount",
  kitB (fun K => .ref (He.ga K "InvalidAmount")) (fun K => .ref (He.ga K "CueError")) true,
  excsB "InvalidPart",
  kitB (fun K => .ref (He.ga K "InvalidPart")) (fun K => .ref (He.ga K "CueError")) true,
  excsB "InvalidMap",
  kitB (fun K => .ref (He.ga K "InvalidMap")) (fun K => .ref (He.ga K "CueError")) true,
  excsB "InvalidPoint",
  kitB (fun K => .ref (He.ga K "InvalidPoint")) (fun K => .ref (He.ga K "CueError")) true,
  excsB "Falling",
  kitB (fun K => .ref (He.ga K "Falling")) (fun K => .ref (He.ga K "CueError")) true,
  tup0B (dflA (fun K => He.ma K (He.ga K "TempoMap") "__init__") 0),
  eqcB "Amount",
  opcB "Amount" "__add__" "add",
  opcB "Amount" "__sub__" "sub",
  opcB "Amount" "__mul__" "mul",
  coB "TempoMap",
  eqcB "TempoMap",
  sysB]
structure Tx (K : PySem.W.Frag) (mg : Str → Option Value) (base : Heap) : Prop where
  says : SaysA fn ex K
  kin : K.In base
  ns : base.Ns mainGlobals mg
section
variable {K : PySem.W.Frag} {mg : Str → Option Value} {base : Heap}
theorem Tx.g_is_whole (T : Tx K mg base) : mg "is_whole" = some (.ref (He.ga K "is_whole")) := PySem.W.mg_of T.kin T.ns (He.eqO_ok (T.says.more 0 (e := gloB "is_whole") rfl))
theorem Tx.g_is_list (T : Tx K mg base) : mg "is_list" = some (.ref (He.ga K "is_list")) := PySem.W.mg_of T.kin T.ns (He.eqO_ok (T.says.more 1 (e := gloB "is_list") rfl))
theorem Tx.g_is_row (T : Tx K mg base) : mg "is_row" = some (.ref (He.ga K "is_row")) := PySem.W.mg_of T.kin T.ns (He.eqO_ok (T.says.more 2 (e := gloB "is_row") rfl))
theorem Tx.g_common_factor (T : Tx K mg base) : mg "common_factor" = some (.ref (He.ga K "common_factor")) := PySem.W.mg_of T.kin T.ns (He.eqO_ok (T.says.more 3 (e := gloB "common_factor") rfl))
theorem Tx.g_is_amount (T : Tx K mg base) : mg "is_amount" = some (.ref (He.ga K "is_amount")) := PySem.W.mg_of T.kin T.ns (He.eqO_ok (T.says.more 4 (e := gloB "is_amount") rfl))
theorem Tx.g_amount_from (T : Tx K mg base) : mg "amount_from" = some (.ref (He.ga K "amount_from")) := PySem.W.mg_of T.kin T.ns (He.eqO_ok (T.says.more 5 (e := gloB "amount_from") rfl))
theorem Tx.g_checked_points (T : Tx K mg base) : mg "checked_points" = some (.ref (He.ga K "checked_points")) := PySem.W.mg_of T.kin T.ns (He.eqO_ok (T.says.more 6 (e := gloB "checked_points") rfl))
theorem Tx.g_slope (T : Tx K mg base) : mg "slope" = some (.ref (He.ga K "slope")) := PySem.W.mg_of T.kin T.ns (He.eqO_ok (T.says.more 7 (e := gloB "slope") rfl))
theorem Tx.g_led (T : Tx K mg base) : mg "led" = some (.ref (He.ga K "led")) := PySem.W.mg_of T.kin T.ns (He.eqO_ok (T.says.more 8 (e := gloB "led") rfl))
theorem Tx.g_paces (T : Tx K mg base) : mg "paces" = some (.ref (He.ga K "paces")) := PySem.W.mg_of T.kin T.ns (He.eqO_ok (T.says.more 9 (e := gloB "paces") rfl))
theorem Tx.g_bends (T : Tx K mg base) : mg "bends" = some (.ref (He.ga K "bends")) := PySem.W.mg_of T.kin T.ns (He.eqO_ok (T.says.more 10 (e := gloB "bends") rfl))
theorem Tx.g_rising (T : Tx K mg base) : mg "rising" = some (.ref (He.ga K "rising")) := PySem.W.mg_of T.kin T.ns (He.eqO_ok (T.says.more 11 (e := gloB "rising") rfl))
theorem Tx.g_need_map (T : Tx K mg base) : mg "need_map" = some (.ref (He.ga K "need_map")) := PySem.W.mg_of T.kin T.ns (He.eqO_ok (T.says.more 12 (e := gloB "need_map") rfl))
theorem Tx.g_w_cell (T : Tx K mg base) : mg "_law_cell" = some (.ref (He.ga K "_law_cell")) := PySem.W.mg_of T.kin T.ns (He.eqO_ok (T.says.more 13 (e := gloB "_law_cell") rfl))
theorem Tx.g_w_bag (T : Tx K mg base) : mg "_law_bag" = some (.ref (He.ga K "_law_bag")) := PySem.W.mg_of T.kin T.ns (He.eqO_ok (T.says.more 14 (e := gloB "_law_bag") rfl))
theorem Tx.g_w_take (T : Tx K mg base) : mg "_law_take" = some (.ref (He.ga K "_law_take")) := PySem.W.mg_of T.kin T.ns (He.eqO_ok (T.says.more 15 (e := gloB "_law_take") rfl))
theorem Tx.g_w_frac (T : Tx K mg base) : mg "_law_frac" = some (.ref (He.ga K "_law_frac")) := PySem.W.mg_of T.kin T.ns (He.eqO_ok (T.says.more 16 (e := gloB "_law_frac") rfl))
theorem Tx.g_w_sum (T : Tx K mg base) : mg "_law_sum" = some (.ref (He.ga K "_law_sum")) := PySem.W.mg_of T.kin T.ns (He.eqO_ok (T.says.more 17 (e := gloB "_law_sum") rfl))
theorem Tx.g_w_less (T : Tx K mg base) : mg "_law_less" = some (.ref (He.ga K "_law_less")) := PySem.W.mg_of T.kin T.ns (He.eqO_ok (T.says.more 18 (e := gloB "_law_less") rfl))
theorem Tx.g_w_rest (T : Tx K mg base) : mg "_law_rest" = some (.ref (He.ga K "_law_rest")) := PySem.W.mg_of T.kin T.ns (He.eqO_ok (T.says.more 19 (e := gloB "_law_rest") rfl))
theorem Tx.g_w_product (T : Tx K mg base) : mg "_law_product" = some (.ref (He.ga K "_law_product")) := PySem.W.mg_of T.kin T.ns (He.eqO_ok (T.says.more 20 (e := gloB "_law_product") rfl))
theorem Tx.g_w_quotient (T : Tx K mg base) : mg "_law_quotient" = some (.ref (He.ga K "_law_quotient")) := PySem.W.mg_of T.kin T.ns (He.eqO_ok (T.says.more 21 (e := gloB "_law_quotient") rfl))
theorem Tx.g_w_fraction (T : Tx K mg base) : mg "_law_fraction" = some (.ref (He.ga K "_law_fraction")) := PySem.W.mg_of T.kin T.ns (He.eqO_ok (T.says.more 22 (e := gloB "_law_fraction") rfl))
theorem Tx.g_w_step (T : Tx K mg base) : mg "_law_step" = some (.ref (He.ga K "_law_step")) := PySem.W.mg_of T.kin T.ns (He.eqO_ok (T.says.more 23 (e := gloB "_law_step") rfl))
theorem Tx.g_w_given (T : Tx K mg base) : mg "_law_given" = some (.ref (He.ga K "_law_given")) := PySem.W.mg_of T.kin T.ns (He.eqO_ok (T.says.more 24 (e := gloB "_law_given") rfl))
theorem Tx.g_w_points (T : Tx K mg base) : mg "_law_points" = some (.ref (He.ga K "_law_points")) := PySem.W.mg_of T.kin T.ns (He.eqO_ok (T.says.more 25 (e := gloB "_law_points") rfl))
theorem Tx.g_w_led (T : Tx K mg base) : mg "_law_led" = some (.ref (He.ga K "_law_led")) := PySem.W.mg_of T.kin T.ns (He.eqO_ok (T.says.more 26 (e := gloB "_law_led") rfl))
theorem Tx.g_w_paces (T : Tx K mg base) : mg "_law_paces" = some (.ref (He.ga K "_law_paces")) := PySem.W.mg_of T.kin T.ns (He.eqO_ok (T.says.more 27 (e := gloB "_law_paces") rfl))
theorem Tx.g_w_bends (T : Tx K mg base) : mg "_law_bends" = some (.ref (He.ga K "_law_bends")) := PySem.W.mg_of T.kin T.ns (He.eqO_ok (T.says.more 28 (e := gloB "_law_bends") rfl))
theorem Tx.g_w_pair (T : Tx K mg base) : mg "_law_pair" = some (.ref (He.ga K "_law_pair")) := PySem.W.mg_of T.kin T.ns (He.eqO_ok (T.says.more 29 (e := gloB "_law_pair") rfl))
theorem Tx.g_w_pairs (T : Tx K mg base) : mg "_law_pairs" = some (.ref (He.ga K "_law_pairs")) := PySem.W.mg_of T.kin T.ns (He.eqO_ok (T.says.more 30 (e := gloB "_law_pairs") rfl))
theorem Tx.g_w_caught (T : Tx K mg base) : mg "_law_caught" = some (.ref (He.ga K "_law_caught")) := PySem.W.mg_of T.kin T.ns (He.eqO_ok (T.says.more 31 (e := gloB "_law_caught") rfl))
theorem Tx.g_w_made (T : Tx K mg base) : mg "_law_made" = some (.ref (He.ga K "_law_made")) := PySem.W.mg_of T.kin T.ns (He.eqO_ok (T.says.more 32 (e := gloB "_law_made") rfl))
theorem Tx.g_w_odd_right (T : Tx K mg base) : mg "_law_odd_right" = some (.ref (He.ga K "_law_odd_right")) := PySem.W.mg_of T.kin T.ns (He.eqO_ok (T.says.more 33 (e := gloB "_law_odd_right") rfl))
theorem Tx.g_w_pace (T : Tx K mg base) : mg "_law_pace" = some (.ref (He.ga K "_law_pace")) := PySem.W.mg_of T.kin T.ns (He.eqO_ok (T.says.more 34 (e := gloB "_law_pace") rfl))
theorem Tx.g_w_chained (T : Tx K mg base) : mg "_law_chained" = some (.ref (He.ga K "_law_chained")) := PySem.W.mg_of T.kin T.ns (He.eqO_ok (T.says.more 35 (e := gloB "_law_chained") rfl))
theorem Tx.g_w_points_right (T : Tx K mg base) : mg "_law_points_right" = some (.ref (He.ga K "_law_points_right")) := PySem.W.mg_of T.kin T.ns (He.eqO_ok (T.says.more 36 (e := gloB "_law_points_right") rfl))
theorem Tx.g_law (T : Tx K mg base) : mg "law" = some (.ref (He.ga K "law")) := PySem.W.mg_of T.kin T.ns (He.eqO_ok (T.says.more 37 (e := gloB "law") rfl))
theorem Tx.g_CueError (T : Tx K mg base) : mg "CueError" = some (.ref (He.ga K "CueError")) := PySem.W.mg_of T.kin T.ns (He.eqO_ok (T.says.more 38 (e := gloB "CueError") rfl))
theorem Tx.g_InvalidInteger (T : Tx K mg base) : mg "InvalidInteger" = some (.ref (He.ga K "InvalidInteger")) := PySem.W.mg_of T.kin T.ns (He.eqO_ok (T.says.more 39 (e := gloB "InvalidInteger") rfl))
theorem Tx.g_InvalidAmount (T : Tx K mg base) : mg "InvalidAmount" = some (.ref (He.ga K "InvalidAmount")) := PySem.W.mg_of T.kin T.ns (He.eqO_ok (T.says.more 40 (e := gloB "InvalidAmount") rfl))
theorem Tx.g_InvalidPart (T : Tx K mg base) : mg "InvalidPart" = some (.ref (He.ga K "InvalidPart")) := PySem.W.mg_of T.kin T.ns (He.eqO_ok (T.says.more 41 (e := gloB "InvalidPart") rfl))
theorem Tx.g_InvalidMap (T : Tx K mg base) : mg "InvalidMap" = some (.ref (He.ga K "InvalidMap")) := PySem.W.mg_of T.kin T.ns (He.eqO_ok (T.says.more 42 (e := gloB "InvalidMap") rfl))
theorem Tx.g_InvalidPoint (T : Tx K mg base) : mg "InvalidPoint" = some (.ref (He.ga K "InvalidPoint")) := PySem.W.mg_of T.kin T.ns (He.eqO_ok (T.says.more 43 (e := gloB "InvalidPoint") rfl))
theorem Tx.g_Falling (T : Tx K mg base) : mg "Falling" = some (.ref (He.ga K "Falling")) := PySem.W.mg_of T.kin T.ns (He.eqO_ok (T.says.more 44 (e := gloB "Falling") rfl))
theorem Tx.g_Amount (T : Tx K mg base) : mg "Amount" = some (.ref (He.ga K "Amount")) := PySem.W.mg_of T.kin T.ns (He.eqO_ok (T.says.more 45 (e := gloB "Amount") rfl))
theorem Tx.g_TempoMap (T : Tx K mg base) : mg "TempoMap" = some (.ref (He.ga K "TempoMap")) := PySem.W.mg_of T.kin T.ns (He.eqO_ok (T.says.more 46 (e := gloB "TempoMap") rfl))
theorem Tx.b_NotImplemented (T : Tx K mg base) : mg "NotImplemented" = none := PySem.W.mg_none_of T.kin T.ns (He.eqO_ok (T.says.more 47 (e := freeB "NotImplemented") rfl))
theorem Tx.b_ValueError (T : Tx K mg base) : mg "ValueError" = none := PySem.W.mg_none_of T.kin T.ns (He.eqO_ok (T.says.more 48 (e := freeB "ValueError") rfl))
theorem Tx.b_abs (T : Tx K mg base) : mg "abs" = none := PySem.W.mg_none_of T.kin T.ns (He.eqO_ok (T.says.more 49 (e := freeB "abs") rfl))
theorem Tx.b_bool (T : Tx K mg base) : mg "bool" = none := PySem.W.mg_none_of T.kin T.ns (He.eqO_ok (T.says.more 50 (e := freeB "bool") rfl))
theorem Tx.b_enumerate (T : Tx K mg base) : mg "enumerate" = none := PySem.W.mg_none_of T.kin T.ns (He.eqO_ok (T.says.more 51 (e := freeB "enumerate") rfl))
theorem Tx.b_int (T : Tx K mg base) : mg "int" = none := PySem.W.mg_none_of T.kin T.ns (He.eqO_ok (T.says.more 52 (e := freeB "int") rfl))
theorem Tx.b_isinstance (T : Tx K mg base) : mg "isinstance" = none := PySem.W.mg_none_of T.kin T.ns (He.eqO_ok (T.says.more 53 (e := freeB "isinstance") rfl))
theorem Tx.b_len (T : Tx K mg base) : mg "len" = none := PySem.W.mg_none_of T.kin T.ns (He.eqO_ok (T.says.more 54 (e := freeB "len") rfl))
theorem Tx.b_list (T : Tx K mg base) : mg "list" = none := PySem.W.mg_none_of T.kin T.ns (He.eqO_ok (T.says.more 55 (e := freeB "list") rfl))
theorem Tx.b_max (T : Tx K mg base) : mg "max" = none := PySem.W.mg_none_of T.kin T.ns (He.eqO_ok (T.says.more 56 (e := freeB "max") rfl))
theorem Tx.b_min (T : Tx K mg base) : mg "min" = none := PySem.W.mg_none_of T.kin T.ns (He.eqO_ok (T.says.more 57 (e := freeB "min") rfl))
theorem Tx.b_property (T : Tx K mg base) : mg "property" = none := PySem.W.mg_none_of T.kin T.ns (He.eqO_ok (T.says.more 58 (e := freeB "property") rfl))
theorem Tx.b_range (T : Tx K mg base) : mg "range" = none := PySem.W.mg_none_of T.kin T.ns (He.eqO_ok (T.says.more 59 (e := freeB "range") rfl))
theorem Tx.b_repr (T : Tx K mg base) : mg "repr" = none := PySem.W.mg_none_of T.kin T.ns (He.eqO_ok (T.says.more 60 (e := freeB "repr") rfl))
theorem Tx.b_tuple (T : Tx K mg base) : mg "tuple" = none := PySem.W.mg_none_of T.kin T.ns (He.eqO_ok (T.says.more 61 (e := freeB "tuple") rfl))
theorem Tx.b_zip (T : Tx K mg base) : mg "zip" = none := PySem.W.mg_none_of T.kin T.ns (He.eqO_ok (T.says.more 62 (e := freeB "zip") rfl))
theorem Tx.c_ONE (T : Tx K mg base) : ∃ u, mg "ONE" = some u ∧ RelV (.int 1) u := conB_ok T.kin T.ns (T.says.more 63 (e := conB "ONE" (.int 1)) rfl)
theorem Tx.cls_Amount (T : Tx K mg base) : Cls K (He.ga K "Amount") := He.cls_ok (T.says.more 64 (e := clsB "Amount") rfl)
theorem Tx.mkr_Amount (T : Tx K mg base) : Mk K (He.ga K "Amount") (He.ma K (He.ga K "Amount") "__init__") := He.mkr_ok (T.says.more 65 (e := mkrB "Amount") rfl)
theorem Tx.ins_Amount (T : Tx K mg base) {H : Hp} {a dx : Addr} {fs : List (Str × V)} (e : H a = some (.ins (He.ga K "Amount") dx fs)) : TyX K H (.ref a) (.ref (He.ga K "Amount")) := insB_ok (T.says.more 66 (e := insB "Amount") rfl) T.cls_Amount e
theorem Tx.m_Amount_init_ (T : Tx K mg base) : Meth K (He.ga K "Amount") "__init__" (He.ma K (He.ga K "Amount") "__init__") := He.meth_ok (T.says.more 67 (e := methB "Amount" "__init__") rfl)
theorem Tx.m_Amount_eq_ (T : Tx K mg base) : Meth K (He.ga K "Amount") "__eq__" (He.ma K (He.ga K "Amount") "__eq__") := He.meth_ok (T.says.more 68 (e := methB "Amount" "__eq__") rfl)
theorem Tx.m_Amount_add_ (T : Tx K mg base) : Meth K (He.ga K "Amount") "__add__" (He.ma K (He.ga K "Amount") "__add__") := He.meth_ok (T.says.more 69 (e := methB "Amount" "__add__") rfl)
theorem Tx.m_Amount_sub_ (T : Tx K mg base) : Meth K (He.ga K "Amount") "__sub__" (He.ma K (He.ga K "Amount") "__sub__") := He.meth_ok (T.says.more 70 (e := methB "Amount" "__sub__") rfl)
theorem Tx.m_Amount_mul_ (T : Tx K mg base) : Meth K (He.ga K "Amount") "__mul__" (He.ma K (He.ga K "Amount") "__mul__") := He.meth_ok (T.says.more 71 (e := methB "Amount" "__mul__") rfl)
theorem Tx.m_Amount_divided (T : Tx K mg base) : Meth K (He.ga K "Amount") "divided" (He.ma K (He.ga K "Amount") "divided") := He.meth_ok (T.says.more 72 (e := methB "Amount" "divided") rfl)
theorem Tx.m_Amount_neg_ (T : Tx K mg base) : Meth K (He.ga K "Amount") "__neg__" (He.ma K (He.ga K "Amount") "__neg__") := He.meth_ok (T.says.more 73 (e := methB "Amount" "__neg__") rfl)
theorem Tx.m_Amount_abs_ (T : Tx K mg base) : Meth K (He.ga K "Amount") "__abs__" (He.ma K (He.ga K "Amount") "__abs__") := He.meth_ok (T.says.more 74 (e := methB "Amount" "__abs__") rfl)
theorem Tx.m_Amount_compare (T : Tx K mg base) : Meth K (He.ga K "Amount") "compare" (He.ma K (He.ga K "Amount") "compare") := He.meth_ok (T.says.more 75 (e := methB "Amount" "compare") rfl)
theorem Tx.no_Amount_own_top (T : Tx K mg base) : NoAttr K (He.ga K "Amount") "own_top" := He.noat_ok (T.says.more 76 (e := noatB "Amount" "own_top") rfl)
theorem Tx.no_Amount_own_bottom (T : Tx K mg base) : NoAttr K (He.ga K "Amount") "own_bottom" := He.noat_ok (T.says.more 77 (e := noatB "Amount" "own_bottom") rfl)
theorem Tx.pr_Amount_top (T : Tx K mg base) : ∃ p, PropOf K (He.ga K "Amount") "top" p (propAt "Amount" "top" K) := propB_ok (T.says.more 78 (e := propB "Amount" "top") rfl)
theorem Tx.pr_Amount_bottom (T : Tx K mg base) : ∃ p, PropOf K (He.ga K "Amount") "bottom" p (propAt "Amount" "bottom" K) := propB_ok (T.says.more 79 (e := propB "Amount" "bottom") rfl)
theorem Tx.k_NoneType_Amount (T : Tx K mg base) : PySem.W.kitOne K ((fun _ => .type "NoneType") K) ((fun K => .ref (He.ga K "Amount")) K) = some false := kitB_ok (T.says.more 80 (e := kitB (fun _ => .type "NoneType") (fun K => .ref (He.ga K "Amount")) false) rfl)
theorem Tx.k_bool_Amount (T : Tx K mg base) : PySem.W.kitOne K ((fun _ => .type "bool") K) ((fun K => .ref (He.ga K "Amount")) K) = some false := kitB_ok (T.says.more 81 (e := kitB (fun _ => .type "bool") (fun K => .ref (He.ga K "Amount")) false) rfl)
theorem Tx.k_int_Amount (T : Tx K mg base) : PySem.W.kitOne K ((fun _ => .type "int") K) ((fun K => .ref (He.ga K "Amount")) K) = some false := kitB_ok (T.says.more 82 (e := kitB (fun _ => .type "int") (fun K => .ref (He.ga K "Amount")) false) rfl)
theorem Tx.k_str_Amount (T : Tx K mg base) : PySem.W.kitOne K ((fun _ => .type "str") K) ((fun K => .ref (He.ga K "Amount")) K) = some false := kitB_ok (T.says.more 83 (e := kitB (fun _ => .type "str") (fun K => .ref (He.ga K "Amount")) false) rfl)
theorem Tx.k_list_Amount (T : Tx K mg base) : PySem.W.kitOne K ((fun _ => .type "list") K) ((fun K => .ref (He.ga K "Amount")) K) = some false := kitB_ok (T.says.more 84 (e := kitB (fun _ => .type "list") (fun K => .ref (He.ga K "Amount")) false) rfl)
theorem Tx.k_tuple_Amount (T : Tx K mg base) : PySem.W.kitOne K ((fun _ => .type "tuple") K) ((fun K => .ref (He.ga K "Amount")) K) = some false := kitB_ok (T.says.more 85 (e := kitB (fun _ => .type "tuple") (fun K => .ref (He.ga K "Amount")) false) rfl)
theorem Tx.k_dict_Amount (T : Tx K mg base) : PySem.W.kitOne K ((fun _ => .type "dict") K) ((fun K => .ref (He.ga K "Amount")) K) = some false := kitB_ok (T.says.more 86 (e := kitB (fun _ => .type "dict") (fun K => .ref (He.ga K "Amount")) false) rfl)
theorem Tx.k_Amount_Amount (T : Tx K mg base) : PySem.W.kitOne K ((fun K => .ref (He.ga K "Amount")) K) ((fun K => .ref (He.ga K "Amount")) K) = some true := kitB_ok (T.says.more 87 (e := kitB (fun K => .ref (He.ga K "Amount")) (fun K => .ref (He.ga K "Amount")) true) rfl)
theorem Tx.k_Amount_TempoMap (T : Tx K mg base) : PySem.W.kitOne K ((fun K => .ref (He.ga K "Amount")) K) ((fun K => .ref (He.ga K "TempoMap")) K) = some false := kitB_ok (T.says.more 88 (e := kitB (fun K => .ref (He.ga K "Amount")) (fun K => .ref (He.ga K "TempoMap")) false) rfl)
theorem Tx.k_Amount_bool (T : Tx K mg base) : PySem.W.kitOne K ((fun K => .ref (He.ga K "Amount")) K) ((fun _ => .type "bool") K) = some false := kitB_ok (T.says.more 89 (e := kitB (fun K => .ref (He.ga K "Amount")) (fun _ => .type "bool") false) rfl)
theorem Tx.k_Amount_int (T : Tx K mg base) : PySem.W.kitOne K ((fun K => .ref (He.ga K "Amount")) K) ((fun _ => .type "int") K) = some false := kitB_ok (T.says.more 90 (e := kitB (fun K => .ref (He.ga K "Amount")) (fun _ => .type "int") false) rfl)
theorem Tx.k_Amount_str (T : Tx K mg base) : PySem.W.kitOne K ((fun K => .ref (He.ga K "Amount")) K) ((fun _ => .type "str") K) = some false := kitB_ok (T.says.more 91 (e := kitB (fun K => .ref (He.ga K "Amount")) (fun _ => .type "str") false) rfl)
theorem Tx.k_Amount_list (T : Tx K mg base) : PySem.W.kitOne K ((fun K => .ref (He.ga K "Amount")) K) ((fun _ => .type "list") K) = some false := kitB_ok (T.says.more 92 (e := kitB (fun K => .ref (He.ga K "Amount")) (fun _ => .type "list") false) rfl)
theorem Tx.k_Amount_tuple (T : Tx K mg base) : PySem.W.kitOne K ((fun K => .ref (He.ga K "Amount")) K) ((fun _ => .type "tuple") K) = some false := kitB_ok (T.says.more 93 (e := kitB (fun K => .ref (He.ga K "Amount")) (fun _ => .type "tuple") false) rfl)
theorem Tx.k_Amount_dict (T : Tx K mg base) : PySem.W.kitOne K ((fun K => .ref (He.ga K "Amount")) K) ((fun _ => .type "dict") K) = some false := kitB_ok (T.says.more 94 (e := kitB (fun K => .ref (He.ga K "Amount")) (fun _ => .type "dict") false) rfl)
theorem Tx.cls_TempoMap (T : Tx K mg base) : Cls K (He.ga K "TempoMap") := He.cls_ok (T.says.more 95 (e := clsB "TempoMap") rfl)
theorem Tx.mkr_TempoMap (T : Tx K mg base) : Mk K (He.ga K "TempoMap") (He.ma K (He.ga K "TempoMap") "__init__") := He.mkr_ok (T.says.more 96 (e := mkrB "TempoMap") rfl)
theorem Tx.ins_TempoMap (T : Tx K mg base) {H : Hp} {a dx : Addr} {fs : List (Str × V)} (e : H a = some (.ins (He.ga K "TempoMap") dx fs)) : TyX K H (.ref a) (.ref (He.ga K "TempoMap")) := insB_ok (T.says.more 97 (e := insB "TempoMap") rfl) T.cls_TempoMap e
theorem Tx.m_TempoMap_init_ (T : Tx K mg base) : Meth K (He.ga K "TempoMap") "__init__" (He.ma K (He.ga K "TempoMap") "__init__") := He.meth_ok (T.says.more 98 (e := methB "TempoMap" "__init__") rfl)
theorem Tx.m_TempoMap_call_ (T : Tx K mg base) : Meth K (He.ga K "TempoMap") "__call__" (He.ma K (He.ga K "TempoMap") "__call__") := He.meth_ok (T.says.more 99 (e := methB "TempoMap" "__call__") rfl)
theorem Tx.m_TempoMap_beat_of (T : Tx K mg base) : Meth K (He.ga K "TempoMap") "beat_of" (He.ma K (He.ga K "TempoMap") "beat_of") := He.meth_ok (T.says.more 100 (e := methB "TempoMap" "beat_of") rfl)
theorem Tx.m_TempoMap_pace (T : Tx K mg base) : Meth K (He.ga K "TempoMap") "pace" (He.ma K (He.ga K "TempoMap") "pace") := He.meth_ok (T.says.more 101 (e := methB "TempoMap" "pace") rfl)
theorem Tx.m_TempoMap_points (T : Tx K mg base) : Meth K (He.ga K "TempoMap") "points" (He.ma K (He.ga K "TempoMap") "points") := He.meth_ok (T.says.more 102 (e := methB "TempoMap" "points") rfl)
theorem Tx.m_TempoMap_inverse (T : Tx K mg base) : Meth K (He.ga K "TempoMap") "inverse" (He.ma K (He.ga K "TempoMap") "inverse") := He.meth_ok (T.says.more 103 (e := methB "TempoMap" "inverse") rfl)
theorem Tx.m_TempoMap_then (T : Tx K mg base) : Meth K (He.ga K "TempoMap") "then" (He.ma K (He.ga K "TempoMap") "then") := He.meth_ok (T.says.more 104 (e := methB "TempoMap" "then") rfl)
theorem Tx.m_TempoMap_eq_ (T : Tx K mg base) : Meth K (He.ga K "TempoMap") "__eq__" (He.ma K (He.ga K "TempoMap") "__eq__") := He.meth_ok (T.says.more 105 (e := methB "TempoMap" "__eq__") rfl)
theorem Tx.no_TempoMap_own_points (T : Tx K mg base) : NoAttr K (He.ga K "TempoMap") "own_points" := He.noat_ok (T.says.more 106 (e := noatB "TempoMap" "own_points") rfl)
theorem Tx.k_NoneType_TempoMap (T : Tx K mg base) : PySem.W.kitOne K ((fun _ => .type "NoneType") K) ((fun K => .ref (He.ga K "TempoMap")) K) = some false := kitB_ok (T.says.more 107 (e := kitB (fun _ => .type "NoneType") (fun K => .ref (He.ga K "TempoMap")) false) rfl)
theorem Tx.k_bool_TempoMap (T : Tx K mg base) : PySem.W.kitOne K ((fun _ => .type "bool") K) ((fun K => .ref (He.ga K "TempoMap")) K) = some false := kitB_ok (T.says.more 108 (e := kitB (fun _ => .type "bool") (fun K => .ref (He.ga K "TempoMap")) false) rfl)
theorem Tx.k_int_TempoMap (T : Tx K mg base) : PySem.W.kitOne K ((fun _ => .type "int") K) ((fun K => .ref (He.ga K "TempoMap")) K) = some false := kitB_ok (T.says.more 109 (e := kitB (fun _ => .type "int") (fun K => .ref (He.ga K "TempoMap")) false) rfl)
theorem Tx.k_str_TempoMap (T : Tx K mg base) : PySem.W.kitOne K ((fun _ => .type "str") K) ((fun K => .ref (He.ga K "TempoMap")) K) = some false := kitB_ok (T.says.more 110 (e := kitB (fun _ => .type "str") (fun K => .ref (He.ga K "TempoMap")) false) rfl)
theorem Tx.k_list_TempoMap (T : Tx K mg base) : PySem.W.kitOne K ((fun _ => .type "list") K) ((fun K => .ref (He.ga K "TempoMap")) K) = some false := kitB_ok (T.says.more 111 (e := kitB (fun _ => .type "list") (fun K => .ref (He.ga K "TempoMap")) false) rfl)
theorem Tx.k_tuple_TempoMap (T : Tx K mg base) : PySem.W.kitOne K ((fun _ => .type "tuple") K) ((fun K => .ref (He.ga K "TempoMap")) K) = some false := kitB_ok (T.says.more 112 (e := kitB (fun _ => .type "tuple") (fun K => .ref (He.ga K "TempoMap")) false) rfl)
theorem Tx.k_dict_TempoMap (T : Tx K mg base) : PySem.W.kitOne K ((fun _ => .type "dict") K) ((fun K => .ref (He.ga K "TempoMap")) K) = some false := kitB_ok (T.says.more 113 (e := kitB (fun _ => .type "dict") (fun K => .ref (He.ga K "TempoMap")) false) rfl)
theorem Tx.k_TempoMap_TempoMap (T : Tx K mg base) : PySem.W.kitOne K ((fun K => .ref (He.ga K "TempoMap")) K) ((fun K => .ref (He.ga K "TempoMap")) K) = some true := kitB_ok (T.says.more 114 (e := kitB (fun K => .ref (He.ga K "TempoMap")) (fun K => .ref (He.ga K "TempoMap")) true) rfl)
theorem Tx.k_TempoMap_Amount (T : Tx K mg base) : PySem.W.kitOne K ((fun K => .ref (He.ga K "TempoMap")) K) ((fun K => .ref (He.ga K "Amount")) K) = some false := kitB_ok (T.says.more 115 (e := kitB (fun K => .ref (He.ga K "TempoMap")) (fun K => .ref (He.ga K "Amount")) false) rfl)
theorem Tx.k_TempoMap_bool (T : Tx K mg base) : PySem.W.kitOne K ((fun K => .ref (He.ga K "TempoMap")) K) ((fun _ => .type "bool") K) = some false := kitB_ok (T.says.more 116 (e := kitB (fun K => .ref (He.ga K "TempoMap")) (fun _ => .type "bool") false) rfl)
theorem Tx.k_TempoMap_int (T : Tx K mg base) : PySem.W.kitOne K ((fun K => .ref (He.ga K "TempoMap")) K) ((fun _ => .type "int") K) = some false := kitB_ok (T.says.more 117 (e := kitB (fun K => .ref (He.ga K "TempoMap")) (fun _ => .type "int") false) rfl)
theorem Tx.k_TempoMap_str (T : Tx K mg base) : PySem.W.kitOne K ((fun K => .ref (He.ga K "TempoMap")) K) ((fun _ => .type "str") K) = some false := kitB_ok (T.says.more 118 (e := kitB (fun K => .ref (He.ga K "TempoMap")) (fun _ => .type "str") false) rfl)
theorem Tx.k_TempoMap_list (T : Tx K mg base) : PySem.W.kitOne K ((fun K => .ref (He.ga K "TempoMap")) K) ((fun _ => .type "list") K) = some false := kitB_ok (T.says.more 119 (e := kitB (fun K => .ref (He.ga K "TempoMap")) (fun _ => .type "list") false) rfl)
theorem Tx.k_TempoMap_tuple (T : Tx K mg base) : PySem.W.kitOne K ((fun K => .ref (He.ga K "TempoMap")) K) ((fun _ => .type "tuple") K) = some false := kitB_ok (T.says.more 120 (e := kitB (fun K => .ref (He.ga K "TempoMap")) (fun _ => .type "tuple") false) rfl)
theorem Tx.k_TempoMap_dict (T : Tx K mg base) : PySem.W.kitOne K ((fun K => .ref (He.ga K "TempoMap")) K) ((fun _ => .type "dict") K) = some false := kitB_ok (T.says.more 121 (e := kitB (fun K => .ref (He.ga K "TempoMap")) (fun _ => .type "dict") false) rfl)
theorem Tx.ba_CueError (T : Tx K mg base) : Ba K "CueError" := baB_ok (T.says.more 122 (e := fun K => baB K "CueError") rfl)
theorem Tx.xc_InvalidInteger (T : Tx K mg base) : Xc K "InvalidInteger" "value" := xcB_ok (T.says.more 123 (e := fun K => xcB K "InvalidInteger" "value") rfl)
theorem Tx.xc_InvalidAmount (T : Tx K mg base) : Xc K "InvalidAmount" "value" := xcB_ok (T.says.more 124 (e := fun K => xcB K "InvalidAmount" "value") rfl)
theorem Tx.xc_InvalidPart (T : Tx K mg base) : Xc K "InvalidPart" "value" := xcB_ok (T.says.more 125 (e := fun K => xcB K "InvalidPart" "value") rfl)
theorem Tx.xc_InvalidMap (T : Tx K mg base) : Xc K "InvalidMap" "value" := xcB_ok (T.says.more 126 (e := fun K => xcB K "InvalidMap" "value") rfl)
theorem Tx.xc_InvalidPoint (T : Tx K mg base) : Xc K "InvalidPoint" "value" := xcB_ok (T.says.more 127 (e := fun K => xcB K "InvalidPoint" "value") rfl)
theorem Tx.xc_Falling (T : Tx K mg base) : Xc K "Falling" "index" := xcB_ok (T.says.more 128 (e := fun K => xcB K "Falling" "index") rfl)
theorem Tx.ex_InvalidInteger_InvalidInteger (T : Tx K mg base) : PySem.W.exmOne K (.ref (He.ga K "InvalidInteger")) (.ref (He.ga K "InvalidInteger")) = some true := He.exm_ok (T.says.more 129 (e := exmB "InvalidInteger" "InvalidInteger" true) rfl)
theorem Tx.ex_InvalidInteger_InvalidAmount (T : Tx K mg base) : PySem.W.exmOne K (.ref (He.ga K "InvalidInteger")) (.ref (He.ga K "InvalidAmount")) = some false := He.exm_ok (T.says.more 130 (e := exmB "InvalidInteger" "InvalidAmount" false) rfl)
theorem Tx.ex_InvalidInteger_InvalidPart (T : Tx K mg base) : PySem.W.exmOne K (.ref (He.ga K "InvalidInteger")) (.ref (He.ga K "InvalidPart")) = some false := He.exm_ok (T.says.more 131 (e := exmB "InvalidInteger" "InvalidPart" false) rfl)
theorem Tx.ex_InvalidInteger_InvalidMap (T : Tx K mg base) : PySem.W.exmOne K (.ref (He.ga K "InvalidInteger")) (.ref (He.ga K "InvalidMap")) = some false := He.exm_ok (T.says.more 132 (e := exmB "InvalidInteger" "InvalidMap" false) rfl)
theorem Tx.ex_InvalidInteger_InvalidPoint (T : Tx K mg base) : PySem.W.exmOne K (.ref (He.ga K "InvalidInteger")) (.ref (He.ga K "InvalidPoint")) = some false := He.exm_ok (T.says.more 133 (e := exmB "InvalidInteger" "InvalidPoint" false) rfl)
theorem Tx.ex_InvalidInteger_Falling (T : Tx K mg base) : PySem.W.exmOne K (.ref (He.ga K "InvalidInteger")) (.ref (He.ga K "Falling")) = some false := He.exm_ok (T.says.more 134 (e := exmB "InvalidInteger" "Falling" false) rfl)
theorem Tx.ex_InvalidAmount_InvalidInteger (T : Tx K mg base) : PySem.W.exmOne K (.ref (He.ga K "InvalidAmount")) (.ref (He.ga K "InvalidInteger")) = some false := He.exm_ok (T.says.more 135 (e := exmB "InvalidAmount" "InvalidInteger" false) rfl)
theorem Tx.ex_InvalidAmount_InvalidAmount (T : Tx K mg base) : PySem.W.exmOne K (.ref (He.ga K "InvalidAmount")) (.ref (He.ga K "InvalidAmount")) = some true := He.exm_ok (T.says.more 136 (e := exmB "InvalidAmount" "InvalidAmount" true) rfl)
theorem Tx.ex_InvalidAmount_InvalidPart (T : Tx K mg base) : PySem.W.exmOne K (.ref (He.ga K "InvalidAmount")) (.ref (He.ga K "InvalidPart")) = some false := He.exm_ok (T.says.more 137 (e := exmB "InvalidAmount" "InvalidPart" false) rfl)
theorem Tx.ex_InvalidAmount_InvalidMap (T : Tx K mg base) : PySem.W.exmOne K (.ref (He.ga K "InvalidAmount")) (.ref (He.ga K "InvalidMap")) = some false := He.exm_ok (T.says.more 138 (e := exmB "InvalidAmount" "InvalidMap" false) rfl)
theorem Tx.ex_InvalidAmount_InvalidPoint (T : Tx K mg base) : PySem.W.exmOne K (.ref (He.ga K "InvalidAmount")) (.ref (He.ga K "InvalidPoint")) = some false := He.exm_ok (T.says.more 139 (e := exmB "InvalidAmount" "InvalidPoint" false) rfl)
theorem Tx.ex_InvalidAmount_Falling (T : Tx K mg base) : PySem.W.exmOne K (.ref (He.ga K "InvalidAmount")) (.ref (He.ga K "Falling")) = some false := He.exm_ok (T.says.more 140 (e := exmB "InvalidAmount" "Falling" false) rfl)
theorem Tx.ex_InvalidPart_InvalidInteger (T : Tx K mg base) : PySem.W.exmOne K (.ref (He.ga K "InvalidPart")) (.ref (He.ga K "InvalidInteger")) = some false := He.exm_ok (T.says.more 141 (e := exmB "InvalidPart" "InvalidInteger" false) rfl)
theorem Tx.ex_InvalidPart_InvalidAmount (T : Tx K mg base) : PySem.W.exmOne K (.ref (He.ga K "InvalidPart")) (.ref (He.ga K "InvalidAmount")) = some false := He.exm_ok (T.says.more 142 (e := exmB "InvalidPart" "InvalidAmount" false) rfl)
theorem Tx.ex_InvalidPart_InvalidPart (T : Tx K mg base) : PySem.W.exmOne K (.ref (He.ga K "InvalidPart")) (.ref (He.ga K "InvalidPart")) = some true := He.exm_ok (T.says.more 143 (e := exmB "InvalidPart" "InvalidPart" true) rfl)
theorem Tx.ex_InvalidPart_InvalidMap (T : Tx K mg base) : PySem.W.exmOne K (.ref (He.ga K "InvalidPart")) (.ref (He.ga K "InvalidMap")) = some false := He.exm_ok (T.says.more 144 (e := exmB "InvalidPart" "InvalidMap" false) rfl)
theorem Tx.ex_InvalidPart_InvalidPoint (T : Tx K mg base) : PySem.W.exmOne K (.ref (He.ga K "InvalidPart")) (.ref (He.ga K "InvalidPoint")) = some false := He.exm_ok (T.says.more 145 (e := exmB "InvalidPart" "InvalidPoint" false) rfl)
theorem Tx.ex_InvalidPart_Falling (T : Tx K mg base) : PySem.W.exmOne K (.ref (He.ga K "InvalidPart")) (.ref (He.ga K "Falling")) = some false := He.exm_ok (T.says.more 146 (e := exmB "InvalidPart" "Falling" false) rfl)
theorem Tx.ex_InvalidMap_InvalidInteger (T : Tx K mg base) : PySem.W.exmOne K (.ref (He.ga K "InvalidMap")) (.ref (He.ga K "InvalidInteger")) = some false := He.exm_ok (T.says.more 147 (e := exmB "InvalidMap" "InvalidInteger" false) rfl)
theorem Tx.ex_InvalidMap_InvalidAmount (T : Tx K mg base) : PySem.W.exmOne K (.ref (He.ga K "InvalidMap")) (.ref (He.ga K "InvalidAmount")) = some false := He.exm_ok (T.says.more 148 (e := exmB "InvalidMap" "InvalidAmount" false) rfl)
theorem Tx.ex_InvalidMap_InvalidPart (T : Tx K mg base) : PySem.W.exmOne K (.ref (He.ga K "InvalidMap")) (.ref (He.ga K "InvalidPart")) = some false := He.exm_ok (T.says.more 149 (e := exmB "InvalidMap" "InvalidPart" false) rfl)
theorem Tx.ex_InvalidMap_InvalidMap (T : Tx K mg base) : PySem.W.exmOne K (.ref (He.ga K "InvalidMap")) (.ref (He.ga K "InvalidMap")) = some true := He.exm_ok (T.says.more 150 (e := exmB "InvalidMap" "InvalidMap" true) rfl)
theorem Tx.ex_InvalidMap_InvalidPoint (T : Tx K mg base) : PySem.W.exmOne K (.ref (He.ga K "InvalidMap")) (.ref (He.ga K "InvalidPoint")) = some false := He.exm_ok (T.says.more 151 (e := exmB "InvalidMap" "InvalidPoint" false) rfl)
theorem Tx.ex_InvalidMap_Falling (T : Tx K mg base) : PySem.W.exmOne K (.ref (He.ga K "InvalidMap")) (.ref (He.ga K "Falling")) = some false := He.exm_ok (T.says.more 152 (e := exmB "InvalidMap" "Falling" false) rfl)
theorem Tx.ex_InvalidPoint_InvalidInteger (T : Tx K mg base) : PySem.W.exmOne K (.ref (He.ga K "InvalidPoint")) (.ref (He.ga K "InvalidInteger")) = some false := He.exm_ok (T.says.more 153 (e := exmB "InvalidPoint" "InvalidInteger" false) rfl)
theorem Tx.ex_InvalidPoint_InvalidAmount (T : Tx K mg base) : PySem.W.exmOne K (.ref (He.ga K "InvalidPoint")) (.ref (He.ga K "InvalidAmount")) = some false := He.exm_ok (T.says.more 154 (e := exmB "InvalidPoint" "InvalidAmount" false) rfl)
theorem Tx.ex_InvalidPoint_InvalidPart (T : Tx K mg base) : PySem.W.exmOne K (.ref (He.ga K "InvalidPoint")) (.ref (He.ga K "InvalidPart")) = some false := He.exm_ok (T.says.more 155 (e := exmB "InvalidPoint" "InvalidPart" false) rfl)
theorem Tx.ex_InvalidPoint_InvalidMap (T : Tx K mg base) : PySem.W.exmOne K (.ref (He.ga K "InvalidPoint")) (.ref (He.ga K "InvalidMap")) = some false := He.exm_ok (T.says.more 156 (e := exmB "InvalidPoint" "InvalidMap" false) rfl)
theorem Tx.ex_InvalidPoint_InvalidPoint (T : Tx K mg base) : PySem.W.exmOne K (.ref (He.ga K "InvalidPoint")) (.ref (He.ga K "InvalidPoint")) = some true := He.exm_ok (T.says.more 157 (e := exmB "InvalidPoint" "InvalidPoint" true) rfl)
theorem Tx.ex_InvalidPoint_Falling (T : Tx K mg base) : PySem.W.exmOne K (.ref (He.ga K "InvalidPoint")) (.ref (He.ga K "Falling")) = some false := He.exm_ok (T.says.more 158 (e := exmB "InvalidPoint" "Falling" false) rfl)
theorem Tx.ex_Falling_InvalidInteger (T : Tx K mg base) : PySem.W.exmOne K (.ref (He.ga K "Falling")) (.ref (He.ga K "InvalidInteger")) = some false := He.exm_ok (T.says.more 159 (e := exmB "Falling" "InvalidInteger" false) rfl)
theorem Tx.ex_Falling_InvalidAmount (T : Tx K mg base) : PySem.W.exmOne K (.ref (He.ga K "Falling")) (.ref (He.ga K "InvalidAmount")) = some false := He.exm_ok (T.says.more 160 (e := exmB "Falling" "InvalidAmount" false) rfl)
theorem Tx.ex_Falling_InvalidPart (T : Tx K mg base) : PySem.W.exmOne K (.ref (He.ga K "Falling")) (.ref (He.ga K "InvalidPart")) = some false := He.exm_ok (T.says.more 161 (e := exmB "Falling" "InvalidPart" false) rfl)
theorem Tx.ex_Falling_InvalidMap (T : Tx K mg base) : PySem.W.exmOne K (.ref (He.ga K "Falling")) (.ref (He.ga K "InvalidMap")) = some false := He.exm_ok (T.says.more 162 (e := exmB "Falling" "InvalidMap" false) rfl)
theorem Tx.ex_Falling_InvalidPoint (T : Tx K mg base) : PySem.W.exmOne K (.ref (He.ga K "Falling")) (.ref (He.ga K "InvalidPoint")) = some false := He.exm_ok (T.says.more 163 (e := exmB "Falling" "InvalidPoint" false) rfl)
theorem Tx.ex_Falling_Falling (T : Tx K mg base) : PySem.W.exmOne K (.ref (He.ga K "Falling")) (.ref (He.ga K "Falling")) = some true := He.exm_ok (T.says.more 164 (e := exmB "Falling" "Falling" true) rfl)
theorem Tx.xk_InvalidInteger (T : Tx K mg base) : ExcC K (He.ga K "InvalidInteger") := excs_ok (T.says.more 165 (e := excsB "InvalidInteger") rfl)
theorem Tx.kb_InvalidInteger (T : Tx K mg base) : PySem.W.kitOne K ((fun K => .ref (He.ga K "InvalidInteger")) K) ((fun K => .ref (He.ga K "CueError")) K) = some true := kitB_ok (T.says.more 166 (e := kitB (fun K => .ref (He.ga K "InvalidInteger")) (fun K => .ref (He.ga K "CueError")) true) rfl)
theorem Tx.xk_InvalidAmount (T : Tx K mg base) : ExcC K (He.ga K "InvalidAmount") := excs_ok (T.says.more 167 (e := excsB "InvalidAmount") rfl)
theorem Tx.kb_InvalidAmount (T : Tx K mg base) : PySem.W.kitOne K ((fun K => .ref (He.ga K "InvalidAmount")) K) ((fun K => .ref (He.ga K "CueError")) K) = some true := kitB_ok (T.says.more 168 (e := kitB (fun K => .ref (He.ga K "InvalidAmount")) (fun K => .ref (He.ga K "CueError")) true) rfl)
theorem Tx.xk_InvalidPart (T : Tx K mg base) : ExcC K (He.ga K "InvalidPart") := excs_ok (T.says.more 169 (e := excsB "InvalidPart") rfl)
theorem Tx.kb_InvalidPart (T : Tx K mg base) : PySem.W.kitOne K ((fun K => .ref (He.ga K "InvalidPart")) K) ((fun K => .ref (He.ga K "CueError")) K) = some true := kitB_ok (T.says.more 170 (e := kitB (fun K => .ref (He.ga K "InvalidPart")) (fun K => .ref (He.ga K "CueError")) true) rfl)
theorem Tx.xk_InvalidMap (T : Tx K mg base) : ExcC K (He.ga K "InvalidMap") := excs_ok (T.says.more 171 (e := excsB "InvalidMap") rfl)
theorem Tx.kb_InvalidMap (T : Tx K mg base) : PySem.W.kitOne K ((fun K => .ref (He.ga K "InvalidMap")) K) ((fun K => .ref (He.ga K "CueError")) K) = some true := kitB_ok (T.says.more 172 (e := kitB (fun K => .ref (He.ga K "InvalidMap")) (fun K => .ref (He.ga K "CueError")) true) rfl)
theorem Tx.xk_InvalidPoint (T : Tx K mg base) : ExcC K (He.ga K "InvalidPoint") := excs_ok (T.says.more 173 (e := excsB "InvalidPoint") rfl)
theorem Tx.kb_InvalidPoint (T : Tx K mg base) : PySem.W.kitOne K ((fun K => .ref (He.ga K "InvalidPoint")) K) ((fun K => .ref (He.ga K "CueError")) K) = some true := kitB_ok (T.says.more 174 (e := kitB (fun K => .ref (He.ga K "InvalidPoint")) (fun K => .ref (He.ga K "CueError")) true) rfl)
theorem Tx.xk_Falling (T : Tx K mg base) : ExcC K (He.ga K "Falling") := excs_ok (T.says.more 175 (e := excsB "Falling") rfl)
theorem Tx.kb_Falling (T : Tx K mg base) : PySem.W.kitOne K ((fun K => .ref (He.ga K "Falling")) K) ((fun K => .ref (He.ga K "CueError")) K) = some true := kitB_ok (T.says.more 176 (e := kitB (fun K => .ref (He.ga K "Falling")) (fun K => .ref (He.ga K "CueError")) true) rfl)
theorem Tx.dt_TempoMap_init_ (T : Tx K mg base) (H : Hp) : SqT K H ((dflA (fun K => He.ma K (He.ga K "TempoMap") "__init__") 0) K) [] := tup0_ok (T.says.more 177 (e := tup0B (dflA (fun K => He.ma K (He.ga K "TempoMap") "__init__") 0)) rfl) H
theorem Tx.eq_Amount (T : Tx K mg base) : EqC K (He.ga K "Amount") (He.ma K (He.ga K "Amount") "__eq__") := eqc_ok (T.says.more 178 (e := eqcB "Amount") rfl)
theorem Tx.op_Amount_add (T : Tx K mg base) : OpC K (He.ga K "Amount") (He.ma K (He.ga K "Amount") "__add__") "add" := opc_ok (T.says.more 179 (e := opcB "Amount" "__add__" "add") rfl)
theorem Tx.op_Amount_sub (T : Tx K mg base) : OpC K (He.ga K "Amount") (He.ma K (He.ga K "Amount") "__sub__") "sub" := opc_ok (T.says.more 180 (e := opcB "Amount" "__sub__" "sub") rfl)
theorem Tx.op_Amount_mul (T : Tx K mg base) : OpC K (He.ga K "Amount") (He.ma K (He.ga K "Amount") "__mul__") "mul" := opc_ok (T.says.more 181 (e := opcB "Amount" "__mul__" "mul") rfl)
theorem Tx.co_TempoMap (T : Tx K mg base) : StX.CallO K (He.ga K "TempoMap") (He.ma K (He.ga K "TempoMap") "__call__") := co_ok (T.says.more 182 (e := coB "TempoMap") rfl)
theorem Tx.eq_TempoMap (T : Tx K mg base) : EqC K (He.ga K "TempoMap") (He.ma K (He.ga K "TempoMap") "__eq__") := eqc_ok (T.says.more 183 (e := eqcB "TempoMap") rfl)
theorem Tx.sys (T : Tx K mg base) : ∃ o, K.lookup sysModules = some o ∧ o.cls = .type "dict" := sysB_ok (T.says.more 184 (e := sysB) rfl)
theorem Tx.f_InvalidInteger_init_ (T : Tx K mg base) : ∃ fd, FunD K d_InvalidInteger_init_.name d_InvalidInteger_init_.qual (defArgs s_InvalidInteger_init_) (defBody s_InvalidInteger_init_) (defScope s_InvalidInteger_init_) (d_InvalidInteger_init_.dvs K) (d_InvalidInteger_init_.kws K) (d_InvalidInteger_init_.loc K) fd := T.says.fun_ 0 (d := d_InvalidInteger_init_) rfl
theorem Tx.f_InvalidAmount_init_ (T : Tx K mg base) : ∃ fd, FunD K d_InvalidAmount_init_.name d_InvalidAmount_init_.qual (defArgs s_InvalidAmount_init_) (defBody s_InvalidAmount_init_) (defScope s_InvalidAmount_init_) (d_InvalidAmount_init_.dvs K) (d_InvalidAmount_init_.kws K) (d_InvalidAmount_init_.loc K) fd := T.says.fun_ 1 (d := d_InvalidAmount_init_) rfl
theorem Tx.f_InvalidPart_init_ (T : Tx K mg base) : ∃ fd, FunD K d_InvalidPart_init_.name d_InvalidPart_init_.qual (defArgs s_InvalidPart_init_) (defBody s_InvalidPart_init_) (defScope s_InvalidPart_init_) (d_InvalidPart_init_.dvs K) (d_InvalidPart_init_.kws K) (d_InvalidPart_init_.loc K) fd := T.says.fun_ 2 (d := d_InvalidPart_init_) rfl
theorem Tx.f_InvalidMap_init_ (T : Tx K mg base) : ∃ fd, FunD K d_InvalidMap_init_.name d_InvalidMap_init_.qual (defArgs s_InvalidMap_init_) (defBody s_InvalidMap_init_) (defScope s_InvalidMap_init_) (d_InvalidMap_init_.dvs K) (d_InvalidMap_init_.kws K) (d_InvalidMap_init_.loc K) fd := T.says.fun_ 3 (d := d_InvalidMap_init_) rfl
theorem Tx.f_InvalidPoint_init_ (T : Tx K mg base) : ∃ fd, FunD K d_InvalidPoint_init_.name d_InvalidPoint_init_.qual (defArgs s_InvalidPoint_init_) (defBody s_InvalidPoint_init_) (defScope s_InvalidPoint_init_) (d_InvalidPoint_init_.dvs K) (d_InvalidPoint_init_.kws K) (d_InvalidPoint_init_.loc K) fd := T.says.fun_ 4 (d := d_InvalidPoint_init_) rfl
theorem Tx.f_Falling_init_ (T : Tx K mg base) : ∃ fd, FunD K d_Falling_init_.name d_Falling_init_.qual (defArgs s_Falling_init_) (defBody s_Falling_init_) (defScope s_Falling_init_) (d_Falling_init_.dvs K) (d_Falling_init_.kws K) (d_Falling_init_.loc K) fd := T.says.fun_ 5 (d := d_Falling_init_) rfl
theorem Tx.f_is_whole (T : Tx K mg base) : ∃ fd, FunD K d_is_whole.name d_is_whole.qual (defArgs s_is_whole) (defBody s_is_whole) (defScope s_is_whole) (d_is_whole.dvs K) (d_is_whole.kws K) (d_is_whole.loc K) fd := T.says.fun_ 6 (d := d_is_whole) rfl
theorem Tx.f_is_list (T : Tx K mg base) : ∃ fd, FunD K d_is_list.name d_is_list.qual (defArgs s_is_list) (defBody s_is_list) (defScope s_is_list) (d_is_list.dvs K) (d_is_list.kws K) (d_is_list.loc K) fd := T.says.fun_ 7 (d := d_is_list) rfl
theorem Tx.f_is_row (T : Tx K mg base) : ∃ fd, FunD K d_is_row.name d_is_row.qual (defArgs s_is_row) (defBody s_is_row) (defScope s_is_row) (d_is_row.dvs K) (d_is_row.kws K) (d_is_row.loc K) fd := T.says.fun_ 8 (d := d_is_row) rfl
theorem Tx.f_common_factor (T : Tx K mg base) : ∃ fd, FunD K d_common_factor.name d_common_factor.qual (defArgs s_common_factor) (defBody s_common_factor) (defScope s_common_factor) (d_common_factor.dvs K) (d_common_factor.kws K) (d_common_factor.loc K) fd := T.says.fun_ 9 (d := d_common_factor) rfl
theorem Tx.f_Amount_init_ (T : Tx K mg base) : ∃ fd, FunD K d_Amount_init_.name d_Amount_init_.qual (defArgs s_Amount_init_) (defBody s_Amount_init_) (defScope s_Amount_init_) (d_Amount_init_.dvs K) (d_Amount_init_.kws K) (d_Amount_init_.loc K) fd := T.says.fun_ 10 (d := d_Amount_init_) rfl
theorem Tx.f_Amount_top (T : Tx K mg base) : ∃ fd, FunD K d_Amount_top.name d_Amount_top.qual (defArgs s_Amount_top) (defBody s_Amount_top) (defScope s_Amount_top) (d_Amount_top.dvs K) (d_Amount_top.kws K) (d_Amount_top.loc K) fd := T.says.fun_ 11 (d := d_Amount_top) rfl
theorem Tx.f_Amount_bottom (T : Tx K mg base) : ∃ fd, FunD K d_Amount_bottom.name d_Amount_bottom.qual (defArgs s_Amount_bottom) (defBody s_Amount_bottom) (defScope s_Amount_bottom) (d_Amount_bottom.dvs K) (d_Amount_bottom.kws K) (d_Amount_bottom.loc K) fd := T.says.fun_ 12 (d := d_Amount_bottom) rfl
theorem Tx.f_Amount_eq_ (T : Tx K mg base) : ∃ fd, FunD K d_Amount_eq_.name d_Amount_eq_.qual (defArgs s_Amount_eq_) (defBody s_Amount_eq_) (defScope s_Amount_eq_) (d_Amount_eq_.dvs K) (d_Amount_eq_.kws K) (d_Amount_eq_.loc K) fd := T.says.fun_ 13 (d := d_Amount_eq_) rfl
theorem Tx.f_Amount_add_ (T : Tx K mg base) : ∃ fd, FunD K d_Amount_add_.name d_Amount_add_.qual (defArgs s_Amount_add_) (defBody s_Amount_add_) (defScope s_Amount_add_) (d_Amount_add_.dvs K) (d_Amount_add_.kws K) (d_Amount_add_.loc K) fd := T.says.fun_ 14 (d := d_Amount_add_) rfl
theorem Tx.f_Amount_sub_ (T : Tx K mg base) : ∃ fd, FunD K d_Amount_sub_.name d_Amount_sub_.qual (defArgs s_Amount_sub_) (defBody s_Amount_sub_) (defScope s_Amount_sub_) (d_Amount_sub_.dvs K) (d_Amount_sub_.kws K) (d_Amount_sub_.loc K) fd := T.says.fun_ 15 (d := d_Amount_sub_) rfl
theorem Tx.f_Amount_mul_ (T : Tx K mg base) : ∃ fd, FunD K d_Amount_mul_.name d_Amount_mul_.qual (defArgs s_Amount_mul_) (defBody s_Amount_mul_) (defScope s_Amount_mul_) (d_Amount_mul_.dvs K) (d_Amount_mul_.kws K) (d_Amount_mul_.loc K) fd := T.says.fun_ 16 (d := d_Amount_mul_) rfl
theorem Tx.f_Amount_divided (T : Tx K mg base) : ∃ fd, FunD K d_Amount_divided.name d_Amount_divided.qual (defArgs s_Amount_divided) (defBody s_Amount_divided) (defScope s_Amount_divided) (d_Amount_divided.dvs K) (d_Amount_divided.kws K) (d_Amount_divided.loc K) fd := T.says.fun_ 17 (d := d_Amount_divided) rfl
theorem Tx.f_Amount_neg_ (T : Tx K mg base) : ∃ fd, FunD K d_Amount_neg_.name d_Amount_neg_.qual (defArgs s_Amount_neg_) (defBody s_Amount_neg_) (defScope s_Amount_neg_) (d_Amount_neg_.dvs K) (d_Amount_neg_.kws K) (d_Amount_neg_.loc K) fd := T.says.fun_ 18 (d := d_Amount_neg_) rfl
theorem Tx.f_Amount_abs_ (T : Tx K mg base) : ∃ fd, FunD K d_Amount_abs_.name d_Amount_abs_.qual (defArgs s_Amount_abs_) (defBody s_Amount_abs_) (defScope s_Amount_abs_) (d_Amount_abs_.dvs K) (d_Amount_abs_.kws K) (d_Amount_abs_.loc K) fd := T.says.fun_ 19 (d := d_Amount_abs_) rfl
theorem Tx.f_Amount_compare (T : Tx K mg base) : ∃ fd, FunD K d_Amount_compare.name d_Amount_compare.qual (defArgs s_Amount_compare) (defBody s_Amount_compare) (defScope s_Amount_compare) (d_Amount_compare.dvs K) (d_Amount_compare.kws K) (d_Amount_compare.loc K) fd := T.says.fun_ 20 (d := d_Amount_compare) rfl
theorem Tx.f_is_amount (T : Tx K mg base) : ∃ fd, FunD K d_is_amount.name d_is_amount.qual (defArgs s_is_amount) (defBody s_is_amount) (defScope s_is_amount) (d_is_amount.dvs K) (d_is_amount.kws K) (d_is_amount.loc K) fd := T.says.fun_ 21 (d := d_is_amount) rfl
theorem Tx.f_amount_from (T : Tx K mg base) : ∃ fd, FunD K d_amount_from.name d_amount_from.qual (defArgs s_amount_from) (defBody s_amount_from) (defScope s_amount_from) (d_amount_from.dvs K) (d_amount_from.kws K) (d_amount_from.loc K) fd := T.says.fun_ 22 (d := d_amount_from) rfl
theorem Tx.f_checked_points (T : Tx K mg base) : ∃ fd, FunD K d_checked_points.name d_checked_points.qual (defArgs s_checked_points) (defBody s_checked_points) (defScope s_checked_points) (d_checked_points.dvs K) (d_checked_points.kws K) (d_checked_points.loc K) fd := T.says.fun_ 23 (d := d_checked_points) rfl
theorem Tx.f_slope (T : Tx K mg base) : ∃ fd, FunD K d_slope.name d_slope.qual (defArgs s_slope) (defBody s_slope) (defScope s_slope) (d_slope.dvs K) (d_slope.kws K) (d_slope.loc K) fd := T.says.fun_ 24 (d := d_slope) rfl
theorem Tx.f_led (T : Tx K mg base) : ∃ fd, FunD K d_led.name d_led.qual (defArgs s_led) (defBody s_led) (defScope s_led) (d_led.dvs K) (d_led.kws K) (d_led.loc K) fd := T.says.fun_ 25 (d := d_led) rfl
theorem Tx.f_paces (T : Tx K mg base) : ∃ fd, FunD K d_paces.name d_paces.qual (defArgs s_paces) (defBody s_paces) (defScope s_paces) (d_paces.dvs K) (d_paces.kws K) (d_paces.loc K) fd := T.says.fun_ 26 (d := d_paces) rfl
theorem Tx.f_bends (T : Tx K mg base) : ∃ fd, FunD K d_bends.name d_bends.qual (defArgs s_bends) (defBody s_bends) (defScope s_bends) (d_bends.dvs K) (d_bends.kws K) (d_bends.loc K) fd := T.says.fun_ 27 (d := d_bends) rfl
theorem Tx.f_TempoMap_init_ (T : Tx K mg base) : ∃ fd, FunD K d_TempoMap_init_.name d_TempoMap_init_.qual (defArgs s_TempoMap_init_) (defBody s_TempoMap_init_) (defScope s_TempoMap_init_) (d_TempoMap_init_.dvs K) (d_TempoMap_init_.kws K) (d_TempoMap_init_.loc K) fd := T.says.fun_ 28 (d := d_TempoMap_init_) rfl
theorem Tx.f_TempoMap_call_ (T : Tx K mg base) : ∃ fd, FunD K d_TempoMap_call_.name d_TempoMap_call_.qual (defArgs s_TempoMap_call_) (defBody s_TempoMap_call_) (defScope s_TempoMap_call_) (d_TempoMap_call_.dvs K) (d_TempoMap_call_.kws K) (d_TempoMap_call_.loc K) fd := T.says.fun_ 29 (d := d_TempoMap_call_) rfl
theorem Tx.f_TempoMap_beat_of (T : Tx K mg base) : ∃ fd, FunD K d_TempoMap_beat_of.name d_TempoMap_beat_of.qual (defArgs s_TempoMap_beat_of) (defBody s_TempoMap_beat_of) (defScope s_TempoMap_beat_of) (d_TempoMap_beat_of.dvs K) (d_TempoMap_beat_of.kws K) (d_TempoMap_beat_of.loc K) fd := T.says.fun_ 30 (d := d_TempoMap_beat_of) rfl
theorem Tx.f_TempoMap_pace (T : Tx K mg base) : ∃ fd, FunD K d_TempoMap_pace.name d_TempoMap_pace.qual (defArgs s_TempoMap_pace) (defBody s_TempoMap_pace) (defScope s_TempoMap_pace) (d_TempoMap_pace.dvs K) (d_TempoMap_pace.kws K) (d_TempoMap_pace.loc K) fd := T.says.fun_ 31 (d := d_TempoMap_pace) rfl
theorem Tx.f_TempoMap_points (T : Tx K mg base) : ∃ fd, FunD K d_TempoMap_points.name d_TempoMap_points.qual (defArgs s_TempoMap_points) (defBody s_TempoMap_points) (defScope s_TempoMap_points) (d_TempoMap_points.dvs K) (d_TempoMap_points.kws K) (d_TempoMap_points.loc K) fd := T.says.fun_ 32 (d := d_TempoMap_points) rfl
theorem Tx.f_TempoMap_inverse (T : Tx K mg base) : ∃ fd, FunD K d_TempoMap_inverse.name d_TempoMap_inverse.qual (defArgs s_TempoMap_inverse) (defBody s_TempoMap_inverse) (defScope s_TempoMap_inverse) (d_TempoMap_inverse.dvs K) (d_TempoMap_inverse.kws K) (d_TempoMap_inverse.loc K) fd := T.says.fun_ 33 (d := d_TempoMap_inverse) rfl
theorem Tx.f_TempoMap_then (T : Tx K mg base) : ∃ fd, FunD K d_TempoMap_then.name d_TempoMap_then.qual (defArgs s_TempoMap_then) (defBody s_TempoMap_then) (defScope s_TempoMap_then) (d_TempoMap_then.dvs K) (d_TempoMap_then.kws K) (d_TempoMap_then.loc K) fd := T.says.fun_ 34 (d := d_TempoMap_then) rfl
theorem Tx.f_TempoMap_eq_ (T : Tx K mg base) : ∃ fd, FunD K d_TempoMap_eq_.name d_TempoMap_eq_.qual (defArgs s_TempoMap_eq_) (defBody s_TempoMap_eq_) (defScope s_TempoMap_eq_) (d_TempoMap_eq_.dvs K) (d_TempoMap_eq_.kws K) (d_TempoMap_eq_.loc K) fd := T.says.fun_ 35 (d := d_TempoMap_eq_) rfl
theorem Tx.f_rising (T : Tx K mg base) : ∃ fd, FunD K d_rising.name d_rising.qual (defArgs s_rising) (defBody s_rising) (defScope s_rising) (d_rising.dvs K) (d_rising.kws K) (d_rising.loc K) fd := T.says.fun_ 36 (d := d_rising) rfl
theorem Tx.f_need_map (T : Tx K mg base) : ∃ fd, FunD K d_need_map.name d_need_map.qual (defArgs s_need_map) (defBody s_need_map) (defScope s_need_map) (d_need_map.dvs K) (d_need_map.kws K) (d_need_map.loc K) fd := T.says.fun_ 37 (d := d_need_map) rfl
theorem Tx.f_w_cell (T : Tx K mg base) : ∃ fd, FunD K d_w_cell.name d_w_cell.qual (defArgs s_w_cell) (defBody s_w_cell) (defScope s_w_cell) (d_w_cell.dvs K) (d_w_cell.kws K) (d_w_cell.loc K) fd := T.says.fun_ 38 (d := d_w_cell) rfl
theorem Tx.f_w_bag (T : Tx K mg base) : ∃ fd, FunD K d_w_bag.name d_w_bag.qual (defArgs s_w_bag) (defBody s_w_bag) (defScope s_w_bag) (d_w_bag.dvs K) (d_w_bag.kws K) (d_w_bag.loc K) fd := T.says.fun_ 39 (d := d_w_bag) rfl
theorem Tx.f_w_take (T : Tx K mg base) : ∃ fd, FunD K d_w_take.name d_w_take.qual (defArgs s_w_take) (defBody s_w_take) (defScope s_w_take) (d_w_take.dvs K) (d_w_take.kws K) (d_w_take.loc K) fd := T.says.fun_ 40 (d := d_w_take) rfl
theorem Tx.f_w_frac (T : Tx K mg base) : ∃ fd, FunD K d_w_frac.name d_w_frac.qual (defArgs s_w_frac) (defBody s_w_frac) (defScope s_w_frac) (d_w_frac.dvs K) (d_w_frac.kws K) (d_w_frac.loc K) fd := T.says.fun_ 41 (d := d_w_frac) rfl
theorem Tx.f_w_sum (T : Tx K mg base) : ∃ fd, FunD K d_w_sum.name d_w_sum.qual (defArgs s_w_sum) (defBody s_w_sum) (defScope s_w_sum) (d_w_sum.dvs K) (d_w_sum.kws K) (d_w_sum.loc K) fd := T.says.fun_ 42 (d := d_w_sum) rfl
theorem Tx.f_w_less (T : Tx K mg base) : ∃ fd, FunD K d_w_less.name d_w_less.qual (defArgs s_w_less) (defBody s_w_less) (defScope s_w_less) (d_w_less.dvs K) (d_w_less.kws K) (d_w_less.loc K) fd := T.says.fun_ 43 (d := d_w_less) rfl
theorem Tx.f_w_rest (T : Tx K mg base) : ∃ fd, FunD K d_w_rest.name d_w_rest.qual (defArgs s_w_rest) (defBody s_w_rest) (defScope s_w_rest) (d_w_rest.dvs K) (d_w_rest.kws K) (d_w_rest.loc K) fd := T.says.fun_ 44 (d := d_w_rest) rfl
theorem Tx.f_w_product (T : Tx K mg base) : ∃ fd, FunD K d_w_product.name d_w_product.qual (defArgs s_w_product) (defBody s_w_product) (defScope s_w_product) (d_w_product.dvs K) (d_w_product.kws K) (d_w_product.loc K) fd := T.says.fun_ 45 (d := d_w_product) rfl
theorem Tx.f_w_quotient (T : Tx K mg base) : ∃ fd, FunD K d_w_quotient.name d_w_quotient.qual (defArgs s_w_quotient) (defBody s_w_quotient) (defScope s_w_quotient) (d_w_quotient.dvs K) (d_w_quotient.kws K) (d_w_quotient.loc K) fd := T.says.fun_ 46 (d := d_w_quotient) rfl
theorem Tx.f_w_fraction (T : Tx K mg base) : ∃ fd, FunD K d_w_fraction.name d_w_fraction.qual (defArgs s_w_fraction) (defBody s_w_fraction) (defScope s_w_fraction) (d_w_fraction.dvs K) (d_w_fraction.kws K) (d_w_fraction.loc K) fd := T.says.fun_ 47 (d := d_w_fraction) rfl
theorem Tx.f_w_step (T : Tx K mg base) : ∃ fd, FunD K d_w_step.name d_w_step.qual (defArgs s_w_step) (defBody s_w_step) (defScope s_w_step) (d_w_step.dvs K) (d_w_step.kws K) (d_w_step.loc K) fd := T.says.fun_ 48 (d := d_w_step) rfl
theorem Tx.f_w_given (T : Tx K mg base) : ∃ fd, FunD K d_w_given.name d_w_given.qual (defArgs s_w_given) (defBody s_w_given) (defScope s_w_given) (d_w_given.dvs K) (d_w_given.kws K) (d_w_given.loc K) fd := T.says.fun_ 49 (d := d_w_given) rfl
theorem Tx.f_w_points (T : Tx K mg base) : ∃ fd, FunD K d_w_points.name d_w_points.qual (defArgs s_w_points) (defBody s_w_points) (defScope s_w_points) (d_w_points.dvs K) (d_w_points.kws K) (d_w_points.loc K) fd := T.says.fun_ 50 (d := d_w_points) rfl
theorem Tx.f_w_led (T : Tx K mg base) : ∃ fd, FunD K d_w_led.name d_w_led.qual (defArgs s_w_led) (defBody s_w_led) (defScope s_w_led) (d_w_led.dvs K) (d_w_led.kws K) (d_w_led.loc K) fd := T.says.fun_ 51 (d := d_w_led) rfl
theorem Tx.f_w_paces (T : Tx K mg base) : ∃ fd, FunD K d_w_paces.name d_w_paces.qual (defArgs s_w_paces) (defBody s_w_paces) (defScope s_w_paces) (d_w_paces.dvs K) (d_w_paces.kws K) (d_w_paces.loc K) fd := T.says.fun_ 52 (d := d_w_paces) rfl
theorem Tx.f_w_bends (T : Tx K mg base) : ∃ fd, FunD K d_w_bends.name d_w_bends.qual (defArgs s_w_bends) (defBody s_w_bends) (defScope s_w_bends) (d_w_bends.dvs K) (d_w_bends.kws K) (d_w_bends.loc K) fd := T.says.fun_ 53 (d := d_w_bends) rfl
theorem Tx.f_w_pair (T : Tx K mg base) : ∃ fd, FunD K d_w_pair.name d_w_pair.qual (defArgs s_w_pair) (defBody s_w_pair) (defScope s_w_pair) (d_w_pair.dvs K) (d_w_pair.kws K) (d_w_pair.loc K) fd := T.says.fun_ 54 (d := d_w_pair) rfl
theorem Tx.f_w_pairs (T : Tx K mg base) : ∃ fd, FunD K d_w_pairs.name d_w_pairs.qual (defArgs s_w_pairs) (defBody s_w_pairs) (defScope s_w_pairs) (d_w_pairs.dvs K) (d_w_pairs.kws K) (d_w_pairs.loc K) fd := T.says.fun_ 55 (d := d_w_pairs) rfl
theorem Tx.f_w_caught (T : Tx K mg base) : ∃ fd, FunD K d_w_caught.name d_w_caught.qual (defArgs s_w_caught) (defBody s_w_caught) (defScope s_w_caught) (d_w_caught.dvs K) (d_w_caught.kws K) (d_w_caught.loc K) fd := T.says.fun_ 56 (d := d_w_caught) rfl
theorem Tx.f_w_made (T : Tx K mg base) : ∃ fd, FunD K d_w_made.name d_w_made.qual (defArgs s_w_made) (defBody s_w_made) (defScope s_w_made) (d_w_made.dvs K) (d_w_made.kws K) (d_w_made.loc K) fd := T.says.fun_ 57 (d := d_w_made) rfl
theorem Tx.f_w_odd_right (T : Tx K mg base) : ∃ fd, FunD K d_w_odd_right.name d_w_odd_right.qual (defArgs s_w_odd_right) (defBody s_w_odd_right) (defScope s_w_odd_right) (d_w_odd_right.dvs K) (d_w_odd_right.kws K) (d_w_odd_right.loc K) fd := T.says.fun_ 58 (d := d_w_odd_right) rfl
theorem Tx.f_w_pace (T : Tx K mg base) : ∃ fd, FunD K d_w_pace.name d_w_pace.qual (defArgs s_w_pace) (defBody s_w_pace) (defScope s_w_pace) (d_w_pace.dvs K) (d_w_pace.kws K) (d_w_pace.loc K) fd := T.says.fun_ 59 (d := d_w_pace) rfl
theorem Tx.f_w_chained (T : Tx K mg base) : ∃ fd, FunD K d_w_chained.name d_w_chained.qual (defArgs s_w_chained) (defBody s_w_chained) (defScope s_w_chained) (d_w_chained.dvs K) (d_w_chained.kws K) (d_w_chained.loc K) fd := T.says.fun_ 60 (d := d_w_chained) rfl
theorem Tx.f_w_points_right (T : Tx K mg base) : ∃ fd, FunD K d_w_points_right.name d_w_points_right.qual (defArgs s_w_points_right) (defBody s_w_points_right) (defScope s_w_points_right) (d_w_points_right.dvs K) (d_w_points_right.kws K) (d_w_points_right.loc K) fd := T.says.fun_ 61 (d := d_w_points_right) rfl
theorem Tx.f_law (T : Tx K mg base) : ∃ fd, FunD K d_law.name d_law.qual (defArgs s_law) (defBody s_law) (defScope s_law) (d_law.dvs K) (d_law.kws K) (d_law.loc K) fd := T.says.fun_ 62 (d := d_law) rfl
end
def nm0 : List PySem.Str := [("CueError" : PySem.Str), ("InvalidInteger" : PySem.Str), ("InvalidAmount" : PySem.Str), ("InvalidPart" : PySem.Str), ("InvalidMap" : PySem.Str), ("InvalidPoint" : PySem.Str), ("Falling" : PySem.Str), ("is_whole" : PySem.Str), ("is_list" : PySem.Str), ("is_row" : PySem.Str), ("common_factor" : PySem.Str), ("Amount" : PySem.Str), ("is_amount" : PySem.Str), ("amount_from" : PySem.Str), ("ONE" : PySem.Str), ("checked_points" : PySem.Str), ("slope" : PySem.Str), ("led" : PySem.Str), ("paces" : PySem.Str), ("bends" : PySem.Str), ("TempoMap" : PySem.Str), ("rising" : PySem.Str), ("need_map" : PySem.Str), ("_law_cell" : PySem.Str), ("_law_bag" : PySem.Str), ("_law_take" : PySem.Str), ("_law_frac" : PySem.Str), ("_law_sum" : PySem.Str), ("_law_less" : PySem.Str), ("_law_rest" : PySem.Str), ("_law_product" : PySem.Str), ("_law_quotient" : PySem.Str), ("_law_fraction" : PySem.Str), ("_law_step" : PySem.Str), ("_law_given" : PySem.Str)]
def nm1 : List PySem.Str := [("_law_points" : PySem.Str), ("_law_led" : PySem.Str), ("_law_paces" : PySem.Str), ("_law_bends" : PySem.Str), ("_law_pair" : PySem.Str), ("_law_pairs" : PySem.Str), ("_law_caught" : PySem.Str), ("_law_made" : PySem.Str), ("_law_odd_right" : PySem.Str), ("_law_pace" : PySem.Str), ("_law_chained" : PySem.Str), ("_law_points_right" : PySem.Str)]
def names : List PySem.Str := nm0 ++ nm1
def lawAt : Nat := 52
end K09

set_option maxHeartbeats 4000000
namespace K09
open PySem PySem.Spec PyProof.Rows L2 AT
/-! ### values of any kind -/
abbrev cA (K : PySem.W.Frag) : Addr := He.ga K "Amount"
def amtF (n d : Int) : List (Str × V) := [("own_top", .int n), ("own_bottom", .int d)]
def amtQ (q : Rat) : List (Str × V) := amtF q.num q.den
/-- at p stands an amount of the value q -/
def IsQ (K : PySem.W.Frag) (H : Hp) (p : Addr) (q : Rat) : Prop := ∃ dx, H p = some (.ins (cA K) dx (amtQ q))
/-- another class of the program -/
structure OthC (K : PySem.W.Frag) (C : Addr) : Prop where
  ty : ∀ {H : Hp} {a dx : Addr} {fs : List (Str × V)}, H a = some (.ins C dx fs) → TyX K H (.ref a) (.ref C)
  int : PySem.W.kitOne K (.ref C) (.type "int") = some false
  bool : PySem.W.kitOne K (.ref C) (.type "bool") = some false
  lst : PySem.W.kitOne K (.ref C) (.type "list") = some false
  tup : PySem.W.kitOne K (.ref C) (.type "tuple") = some false
  amt : PySem.W.kitOne K (.ref C) (.ref (cA K)) = some false
  ne : C ≠ cA K
inductive AnyV (K : PySem.W.Frag) (H : Hp) : V → Prop where
  | non : AnyV K H .non
  | bl (b : Bool) : AnyV K H (.bl b)
  | int (i : Int) : AnyV K H (.int i)
  | str (x : Str) : AnyV K H (.str x)
  | lst {a : Addr} {xs : List V} (e : H a = some (.lst xs)) : AnyV K H (.ref a)
  | tup {a : Addr} {xs : List V} (e : H a = some (.tup xs)) : AnyV K H (.ref a)
  | dct {a : Addr} {kvs : List (Key × V)} (e : H a = some (.dK kvs)) : AnyV K H (.ref a)
  | amt {a : Addr} {q : Rat} (e : IsQ K H a q) : AnyV K H (.ref a)
  | oth {a C dx : Addr} {fs : List (Str × V)} (o : OthC K C) (e : H a = some (.ins C dx fs)) : AnyV K H (.ref a)
theorem AnyV.up {K : PySem.W.Frag} {H H' : Hp} {v : V} (h : AnyV K H v) (s : Same H H') : AnyV K H' v := by
  cases h with
  | non => exact .non
  | bl b => exact .bl b
  | int i => exact .int i
  | str x => exact .str x
  | lst e => exact .lst (s _ _ e)
  | tup e => exact .tup (s _ _ e)
  | dct e => exact .dct (s _ _ e)
  | amt e => exact .amt (e.imp fun _ z => s _ _ z)
  | oth o e => exact .oth o (s _ _ e)
def wholeV : V → Bool
  | .int _ => true
  | _ => false
def intV : V → Bool
  | .int _ => true
  | .bl _ => true
  | _ => false
def blV : V → Bool
  | .bl _ => true
  | _ => false
def strV : V → Bool
  | .str _ => true
  | _ => false
section
variable {P : Program} {w : World} {K : PySem.W.Frag} {mg : Str → Option Value} {base : Heap}
theorem isi_int (T : Tx K mg base) {H : Hp} {v : V} (h : AnyV K H v) : ∃ t, TyX K H v t ∧ PySem.W.kitOne K t (.type "int") = some (intV v) := by
  cases h with
  | non  => exact ⟨_, .base .non, kit_ty (r := false) (by decide +kernel)⟩
  | bl b => exact ⟨_, .base (.bl b), kit_ty (r := true) (by decide +kernel)⟩
  | int i => exact ⟨_, .base (.int i), kit_ty (r := true) (by decide +kernel)⟩
  | str x => exact ⟨_, .base (.str x), kit_ty (r := false) (by decide +kernel)⟩
  | lst e => exact ⟨_, .base (.lst e), kit_ty (r := false) (by decide +kernel)⟩
  | tup e => exact ⟨_, .base (.tup e), kit_ty (r := false) (by decide +kernel)⟩
  | dct e => exact ⟨_, .base (.dK e), kit_ty (r := false) (by decide +kernel)⟩
  | amt e => obtain ⟨dx, e⟩ := e; exact ⟨_, T.ins_Amount e, T.k_Amount_int⟩
  | oth o e => exact ⟨_, o.ty e, o.int⟩
theorem isi_bool (T : Tx K mg base) {H : Hp} {v : V} (h : AnyV K H v) : ∃ t, TyX K H v t ∧ PySem.W.kitOne K t (.type "bool") = some (blV v) := by
  cases h with
  | non  => exact ⟨_, .base .non, kit_ty (r := false) (by decide +kernel)⟩
  | bl b => exact ⟨_, .base (.bl b), kit_ty (r := true) (by decide +kernel)⟩
  | int i => exact ⟨_, .base (.int i), kit_ty (r := false) (by decide +kernel)⟩
  | str x => exact ⟨_, .base (.str x), kit_ty (r := false) (by decide +kernel)⟩
  | lst e => exact ⟨_, .base (.lst e), kit_ty (r := false) (by decide +kernel)⟩
  | tup e => exact ⟨_, .base (.tup e), kit_ty (r := false) (by decide +kernel)⟩
  | dct e => exact ⟨_, .base (.dK e), kit_ty (r := false) (by decide +kernel)⟩
  | amt e => obtain ⟨dx, e⟩ := e; exact ⟨_, T.ins_Amount e, T.k_Amount_bool⟩
  | oth o e => exact ⟨_, o.ty e, o.bool⟩
/-- the type, as the operators ask for it -/
theorem IsQ.ofTy (T : Tx K mg base) {H : Hp} {a : Addr} {q : Rat} (h : IsQ K H a q) : OfTy K H (cA K) (.ref a) := by
  obtain ⟨dx, e⟩ := h
  exact ⟨_, T.ins_Amount e, .inl rfl⟩
/-! ### the exceptions -/
theorem ok_InvalidInteger_init_ (T : Tx K mg base) : Ok P w K mg base 1 (He.ma K (He.ga K "InvalidInteger") "__init__") ["self", "value"] (spXi K (He.ga K "InvalidInteger") "value") := by
  refine mk_ok (N := ["self", "value"]) T.f_InvalidInteger_init_ ⟨rfl, rfl, rfl, by decide +kernel, rfl, by decide +kernel, by decide +kernel⟩ (fun _ _ _ _ _ _ us hl => match us, hl with | [_, _], _ => rfl) (fun vs H Q E h => ?_) (fun cdv A outer s H vs Q E hr h => ?_)
  · obtain ⟨a, v, rfl, _⟩ := h
    rfl
  · exact ⟨_, pss_cons (ps_expr (pe_cinit T.ba_CueError rfl T.g_CueError (pa_cons (pv 0) (pa_cons pe_str pa_nil)))) (pss_one (ps_ost (pv 0) (pv 1))), xi_reading rfl vs H Q E h⟩
theorem mx_InvalidInteger {X : Cx} (T : Tx X.K X.mg X.base) (hr : Room 2 X.A) : MkX X "InvalidInteger" "value" := mk_X T.xc_InvalidInteger T.g_InvalidInteger (ok_InvalidInteger_init_ T) hr
theorem ok_InvalidAmount_init_ (T : Tx K mg base) : Ok P w K mg base 1 (He.ma K (He.ga K "InvalidAmount") "__init__") ["self", "value"] (spXi K (He.ga K "InvalidAmount") "value") := by
  refine mk_ok (N := ["self", "value"]) T.f_InvalidAmount_init_ ⟨rfl, rfl, rfl, by decide +kernel, rfl, by decide +kernel, by decide +kernel⟩ (fun _ _ _ _ _ _ us hl => match us, hl with | [_, _], _ => rfl) (fun vs H Q E h => ?_) (fun cdv A outer s H vs Q E hr h => ?_)
  · obtain ⟨a, v, rfl, _⟩ := h
    rfl
  · exact ⟨_, pss_cons (ps_expr (pe_cinit T.ba_CueError rfl T.g_CueError (pa_cons (pv 0) (pa_cons pe_str pa_nil)))) (pss_one (ps_ost (pv 0) (pv 1))), xi_reading rfl vs H Q E h⟩
theorem mx_InvalidAmount {X : Cx} (T : Tx X.K X.mg X.base) (hr : Room 2 X.A) : MkX X "InvalidAmount" "value" := mk_X T.xc_InvalidAmount T.g_InvalidAmount (ok_InvalidAmount_init_ T) hr
theorem ok_InvalidPart_init_ (T : Tx K mg base) : Ok P w K mg base 1 (He.ma K (He.ga K "InvalidPart") "__init__") ["self", "value"] (spXi K (He.ga K "InvalidPart") "value") := by
  refine mk_ok (N := ["self", "value"]) T.f_InvalidPart_init_ ⟨rfl, rfl, rfl, by decide +kernel, rfl, by decide +kernel, by decide +kernel⟩ (fun _ _ _ _ _ _ us hl => match us, hl with | [_, _], _ => rfl) (fun vs H Q E h => ?_) (fun cdv A outer s H vs Q E hr h => ?_)
  · obtain ⟨a, v, rfl, _⟩ := h
    rfl
  · exact ⟨_, pss_cons (ps_expr (pe_cinit T.ba_CueError rfl T.g_CueError (pa_cons (pv 0) (pa_cons pe_str pa_nil)))) (pss_one (ps_ost (pv 0) (pv 1))), xi_reading rfl vs H Q E h⟩
theorem mx_InvalidPart {X : Cx} (T : Tx X.K X.mg X.base) (hr : Room 2 X.A) : MkX X "InvalidPart" "value" := mk_X T.xc_InvalidPart T.g_InvalidPart (ok_InvalidPart_init_ T) hr
theorem ok_InvalidMap_init_ (T : Tx K mg base) : Ok P w K mg base 1 (He.ma K (He.ga K "InvalidMap") "__init__") ["self", "value"] (spXi K (He.ga K "InvalidMap") "value") := by
  refine mk_ok (N := ["self", "value"]) T.f_InvalidMap_init_ ⟨rfl, rfl, rfl, by decide +kernel, rfl, by decide +kernel, by decide +kernel⟩ (fun _ _ _ _ _ _ us hl => match us, hl with | [_, _], _ => rfl) (fun vs H Q E h => ?_) (fun cdv A outer s H vs Q E hr h => ?_)
  · obtain ⟨a, v, rfl, _⟩ := h
    rfl
  · exact ⟨_, pss_cons (ps_expr (pe_cinit T.ba_CueError rfl T.g_CueError (pa_cons (pv 0) (pa_cons pe_str pa_nil)))) (pss_one (ps_ost (pv 0) (pv 1))), xi_reading rfl vs H Q E h⟩
theorem mx_InvalidMap {X : Cx} (T : Tx X.K X.mg X.base) (hr : Room 2 X.A) : MkX X "InvalidMap" "value" := mk_X T.xc_InvalidMap T.g_InvalidMap (ok_InvalidMap_init_ T) hr
theorem ok_InvalidPoint_init_ (T : Tx K mg base) : Ok P w K mg base 1 (He.ma K (He.ga K "InvalidPoint") "__init__") ["self", "value"] (spXi K (He.ga K "InvalidPoint") "value") := by
  refine mk_ok (N := ["self", "value"]) T.f_InvalidPoint_init_ ⟨rfl, rfl, rfl, by decide +kernel, rfl, by decide +kernel, by decide +kernel⟩ (fun _ _ _ _ _ _ us hl => match us, hl with | [_, _], _ => rfl) (fun vs H Q E h => ?_) (fun cdv A outer s H vs Q E hr h => ?_)
  · obtain ⟨a, v, rfl, _⟩ := h
    rfl
  · exact ⟨_, pss_cons (ps_expr (pe_cinit T.ba_CueError rfl T.g_CueError (pa_cons (pv 0) (pa_cons pe_str pa_nil)))) (pss_one (ps_ost (pv 0) (pv 1))), xi_reading rfl vs H Q E h⟩
theorem mx_InvalidPoint {X : Cx} (T : Tx X.K X.mg X.base) (hr : Room 2 X.A) : MkX X "InvalidPoint" "value" := mk_X T.xc_InvalidPoint T.g_InvalidPoint (ok_InvalidPoint_init_ T) hr
theorem ok_Falling_init_ (T : Tx K mg base) : Ok P w K mg base 1 (He.ma K (He.ga K "Falling") "__init__") ["self", "index"] (spXi K (He.ga K "Falling") "index") := by
  refine mk_ok (N := ["self", "index"]) T.f_Falling_init_ ⟨rfl, rfl, rfl, by decide +kernel, rfl, by decide +kernel, by decide +kernel⟩ (fun _ _ _ _ _ _ us hl => match us, hl with | [_, _], _ => rfl) (fun vs H Q E h => ?_) (fun cdv A outer s H vs Q E hr h => ?_)
  · obtain ⟨a, v, rfl, _⟩ := h
    rfl
  · exact ⟨_, pss_cons (ps_expr (pe_cinit T.ba_CueError rfl T.g_CueError (pa_cons (pv 0) (pa_cons pe_str pa_nil)))) (pss_one (ps_ost (pv 0) (pv 1))), xi_reading rfl vs H Q E h⟩
theorem mx_Falling {X : Cx} (T : Tx X.K X.mg X.base) (hr : Room 2 X.A) : MkX X "Falling" "index" := mk_X T.xc_Falling T.g_Falling (ok_Falling_init_ T) hr
/-- what is raised: a new exception of the class x whose field f is v -/
def Rf (K : PySem.W.Frag) (x f : Str) (v : V) (H : Hp) (E : XK) : Prop := ∀ H' d, Same H H' → H d = none → H' d = some (.xd [(f, v)]) → E (.ref (He.ga K x)) (some d) H'
theorem rf_of {K : PySem.W.Frag} {x f : Str} {v : V} {H : Hp} {E : XK} (h : Rf K x f v H E) : ∀ d, H d = none → E (.ref (He.ga K x)) (some d) (upd H d (.xd [(f, v)])) := fun d hd =>
  h _ d (fun b o e => by rw [upd_ne (ne_of_none e hd)]; exact e) hd upd_same
theorem Rf.up {K : PySem.W.Frag} {x f : Str} {v : V} {H H1 : Hp} {E : XK} (h : Rf K x f v H E) (s : Same H H1) : Rf K x f v H1 E := fun H' d s2 hd hx => h H' d (s.trans s2) (by
  cases q : H d with
  | none => rfl
  | some o => rw [s _ _ q] at hd; cases hd) hx
/-! ### is_whole -/
def spWhole (K : PySem.W.Frag) : Sp := fun vs H Q _ => ∃ v, vs = [v] ∧ AnyV K H v ∧ Q (.bl (wholeV v)) H
theorem sc_is_whole : FnScope ["value"] ["value"] (defScope s_is_whole) := ⟨rfl, rfl, rfl, by decide +kernel, rfl, by decide +kernel, by decide +kernel⟩
theorem ok_is_whole (T : Tx K mg base) : Ok P w K mg base 1 (d_is_whole.loc K) ["value"] (spWhole K) := by
  refine mk_ok (k := 0) T.f_is_whole sc_is_whole (fun _ _ _ _ _ _ us hl => match us, hl with | [_], _ => rfl) (fun vs H Q E h => ?_) (fun cdv A outer s H vs Q E hr h => ?_)
  · obtain ⟨v, rfl, _⟩ := h
    rfl
  · obtain ⟨v, rfl, hv, k⟩ := h
    refine ⟨_, (pss_one (ps_ret (pe_and (pe_callB call_isi (by rfl) T.b_isinstance (by decide +kernel) (pa_cons (pv 0) (pa_cons (pe_bltn (v := .ty "int") rfl T.b_int (by decide +kernel) rfl) pa_nil))) (pe_one (pe_not (pe_callB call_isi (by rfl) T.b_isinstance (by decide +kernel) (pa_cons (pv 0) (pa_cons (pe_bltn (v := .ty "bool") rfl T.b_bool (by decide +kernel) rfl) pa_nil)))))))), ?_⟩
    obtain ⟨t1, y1, q1⟩ := isi_int T hv
    obtain ⟨t2, y2, q2⟩ := isi_bool T hv
    refine ⟨_, rfl, _, _, _, _, _, rfl, .ty _, y1, q1, _, rfl, ?_⟩
    cases hv with
    | bl b => exact ⟨_, rfl, _, _, _, _, _, rfl, .ty _, y2, q2, _, rfl, k⟩
    | int i => exact ⟨_, rfl, _, _, _, _, _, rfl, .ty _, y2, q2, _, rfl, k⟩
    | _ => exact k
/-! ### common_factor -/
def spGcd : Sp := fun vs H Q _ => ∃ a b : Int, vs = [.int a, .int b] ∧ 0 ≤ a ∧ 0 ≤ b ∧ Q (.int (Int.gcd a b : Nat)) H
theorem gcd_turn {a b : Int} (ha : 0 ≤ a) (hb : 0 < b) : Int.gcd b (a % b) = Int.gcd a b := by
  obtain ⟨n, rfl⟩ := Int.eq_ofNat_of_zero_le ha
  obtain ⟨m, rfl⟩ := Int.eq_ofNat_of_zero_le (Int.le_of_lt hb)
  have e : (n : Int) % (m : Int) = ((n % m : Nat) : Int) := by simp
  show Nat.gcd (Int.natAbs (m : Int)) (Int.natAbs ((n : Int) % (m : Int))) = Nat.gcd (Int.natAbs (n : Int)) (Int.natAbs (m : Int))
  rw [e, Int.natAbs_natCast, Int.natAbs_natCast, Int.natAbs_natCast, Nat.gcd_comm m, ← Nat.gcd_rec, Nat.gcd_comm]
theorem sc_common_factor : FnScope ["one", "other"] ["one", "other"] (defScope s_common_factor) := ⟨rfl, rfl, rfl, by decide +kernel, rfl, by decide +kernel, by decide +kernel⟩
theorem ok_common_factor (T : Tx K mg base) : Ok P w K mg base 1 (d_common_factor.loc K) ["one", "other"] spGcd := by
  refine mk_ok (k := 0) T.f_common_factor sc_common_factor (fun _ _ _ _ _ _ us hl => match us, hl with | [_, _], _ => rfl) (fun vs H Q E h => ?_) (fun cdv A outer s H vs Q E hr h => ?_)
  · obtain ⟨a, b, rfl, _⟩ := h
    rfl
  · obtain ⟨a, b, rfl, ha, hb, k⟩ := h
    refine ⟨_, (pss_cons (ps_while (passes_of rfl) (pt_cmpR op_gt (pv 1) pe_int (nomark _)) (pss_one (ps_par (by rfl) sc_common_factor.nd (i := 0) (j := 1) rfl rfl (by decide) rfl rfl (pa_cons (pv 1) (pa_cons (pe_op op_mod (pv 0) (pv 1)) pa_nil)) (by rfl))))
      (pss_one (ps_ret (pv 0)))), ?_⟩
    refine ⟨fun m σ H' => ∃ a' b' : Int, σ = [some (.int a'), some (.int b')] ∧ H' = H ∧ 0 ≤ a' ∧ 0 ≤ b' ∧ Int.gcd a' b' = Int.gcd a b ∧ m = b'.toNat, ⟨_, a, b, rfl, rfl, ha, hb, rfl, rfl⟩, ?_⟩
    rintro m σ H' ⟨a', b', rfl, rfl, ha', hb', hg, rfl⟩
    refine ⟨_, rfl, _, _, rfl, rfl, _, rfl, ?_⟩
    refine ite2 (fun h1 => ?_) (fun h1 => ?_)
    · have h1' : 0 < b' := of_decide_eq_true h1
      refine ⟨fun σ2 H2 => ∃ a2 b2 : Int, σ2 = [some (.int a2), some (.int b2)] ∧ H2 = H' ∧ 0 ≤ a2 ∧ 0 ≤ b2 ∧ Int.gcd a2 b2 = Int.gcd a b ∧ b2 < b', ?_, ?_⟩
      · rintro σ2 H2 ⟨a2, b2, rfl, rfl, h2, h3, h4, h5⟩
        exact ⟨b2.toNat, by omega, a2, b2, rfl, rfl, h2, h3, h4, rfl⟩
      · refine ⟨_, rfl, _, rfl, _, rfl, _, _, rfl, rfl, h1', _, _, rfl, ?_⟩
        exact ⟨b', a' % b', rfl, rfl, hb', Int.emod_nonneg _ (by omega), by rw [gcd_turn ha' h1', hg], Int.emod_lt_of_pos _ h1'⟩
    · have h0 : b' = 0 := by
        have := of_decide_eq_false (by simpa using h1 : decide (0 < b') = false)
        omega
      subst h0
      refine ⟨_, rfl, ?_⟩
      have e : (Int.gcd a b : Int) = a' := by rw [← hg, Int.gcd_zero_right]; omega
      rw [e] at k
      exact k
end
end K09

set_option maxHeartbeats 4000000
namespace K09
open PySem PySem.Spec PyProof.Rows L2 AT
/-! ### lowest terms, as the rationals have them -/
def fac (t b : Int) : Int := if b < 0 then -(Int.gcd t b : Nat) else (Int.gcd t b : Nat)
theorem gcd_pos {t b : Int} (h : b ≠ 0) : 0 < Int.gcd t b := Int.gcd_pos_of_ne_zero_right t h
theorem gcd_le {t b : Int} (h : b ≠ 0) : Int.gcd t b ≤ b.natAbs := Nat.le_of_dvd (Int.natAbs_pos.mpr h) (Int.gcd_dvd_natAbs_right t b)
theorem low_num {t b : Int} (h : b ≠ 0) : t.fdiv (fac t b) = (Rat.divInt t b).num := by
  rw [Rat.num_divInt, Int.gcd_comm b t]
  have hg := gcd_pos (t := t) h
  obtain ⟨c, hc⟩ := Int.gcd_dvd_left t b
  unfold fac
  generalize Int.gcd t b = g at hg hc ⊢
  subst hc
  have g0 : (g : Int) ≠ 0 := by omega
  split
  · rename_i hb
    rw [Int.sign_eq_neg_one_of_neg hb, show ((g : Int) * c) = (-(g : Int)) * (-c) by rw [Int.neg_mul_neg], Int.mul_fdiv_cancel_left _ (by omega), show (-1 * (-(g : Int) * -c)) = (g : Int) * (-c) by rw [Int.neg_mul_neg, Int.mul_neg, Int.neg_one_mul], Int.mul_ediv_cancel_left _ g0]
  · have hb : 0 < b := by omega
    rw [Int.sign_eq_one_of_pos hb, Int.one_mul, Int.mul_fdiv_cancel_left _ g0, Int.mul_ediv_cancel_left _ g0]
theorem low_den {t b : Int} (h : b ≠ 0) : b.fdiv (fac t b) = ((Rat.divInt t b).den : Int) := by
  rw [Rat.den_divInt, if_neg h, Int.gcd_comm b t]
  have hg := gcd_pos (t := t) h
  obtain ⟨c, hc⟩ := Int.gcd_dvd_right t b
  unfold fac
  generalize Int.gcd t b = g at hg hc ⊢
  subst hc
  have g0 : (g : Int) ≠ 0 := by omega
  have e : ((g : Int) * c).natAbs / g = c.natAbs := by rw [Int.natAbs_mul, Int.natAbs_natCast, Nat.mul_div_cancel_left _ hg]
  rw [e]
  split
  · rename_i hb
    rw [show ((g : Int) * c) = (-(g : Int)) * (-c) by rw [Int.neg_mul_neg], Int.mul_fdiv_cancel_left _ (by omega)]
    have : c < 0 := by
      rcases Int.lt_or_le c 0 with z | z
      · exact z
      · have := Int.mul_nonneg (show (0 : Int) ≤ g by omega) z
        omega
    omega
  · rw [Int.mul_fdiv_cancel_left _ g0]
    have : 0 ≤ c := by
      rcases Int.lt_or_le c 0 with z | z
      · have := Int.mul_neg_of_pos_of_neg (show (0 : Int) < g by omega) z
        omega
      · exact z
    omega
theorem den_ne (q : Rat) : (q.den : Int) ≠ 0 := by have := q.den_nz; omega
theorem q_self (q : Rat) : Rat.divInt q.num q.den = q := Rat.num_divInt_den q
theorem q_add (x y : Rat) : Rat.divInt (x.num * y.den + y.num * x.den) (x.den * y.den) = x + y := by
  rw [← Rat.divInt_add_divInt _ _ (den_ne x) (den_ne y), q_self, q_self]
theorem q_neg (x : Rat) : Rat.divInt (-x.num) x.den = -x := by
  rw [← Rat.neg_divInt, q_self]
theorem q_sub (x y : Rat) : Rat.divInt (x.num * y.den - y.num * x.den) (x.den * y.den) = x - y := by
  have h := Rat.divInt_add_divInt x.num (-y.num) (den_ne x) (den_ne y)
  rw [q_self, q_neg] at h
  rw [Rat.sub_eq_add_neg, h, Int.neg_mul, Int.sub_eq_add_neg]
theorem q_mul (x y : Rat) : Rat.divInt (x.num * y.num) (x.den * y.den) = x * y := by
  rw [← Rat.divInt_mul_divInt, q_self, q_self]
theorem q_div (x y : Rat) : Rat.divInt (x.num * y.den) (x.den * y.num) = x / y := by
  rw [← Rat.divInt_mul_divInt, q_self, Rat.div_def, Rat.inv_def]
theorem q_int (i : Int) : Rat.divInt i 1 = (i : Rat) := by
  rw [Rat.divInt_eq_div]
  have : (1 : Rat)⁻¹ = 1 := by decide +kernel
  simp [Rat.div_def, this]
theorem num_ne {y : Rat} (h : y ≠ 0) : y.num ≠ 0 := fun z => h (Rat.num_eq_zero.mp z)
/-- small enough: k bits above and below -/
def Bits (k : Nat) (q : Rat) : Prop := q.num.natAbs < 2 ^ k ∧ q.den < 2 ^ k
theorem Bits.mono {k j : Nat} {q : Rat} (h : Bits k q) (l : k ≤ j) : Bits j q := ⟨Nat.lt_of_lt_of_le h.1 (Nat.pow_le_pow_right (by decide) l), Nat.lt_of_lt_of_le h.2 (Nat.pow_le_pow_right (by decide) l)⟩
theorem bits_of {k : Nat} {t b : Int} (hb : b ≠ 0) (h1 : t.natAbs < 2 ^ k) (h2 : b.natAbs < 2 ^ k) : Bits k (Rat.divInt t b) := by
  have g0 := gcd_pos (t := t) hb
  constructor
  · rw [Rat.num_divInt, Int.gcd_comm b t]
    obtain ⟨c, hc⟩ := Int.gcd_dvd_left t b
    generalize Int.gcd t b = g at g0 hc ⊢
    subst hc
    have e : b.sign * ((g : Int) * c) / g = b.sign * c := by
      rw [show b.sign * ((g : Int) * c) = (g : Int) * (b.sign * c) by rw [← Int.mul_assoc, Int.mul_comm b.sign, Int.mul_assoc], Int.mul_ediv_cancel_left _ (by omega)]
    rw [e]
    refine Nat.lt_of_le_of_lt ?_ h1
    rw [Int.natAbs_mul, Int.natAbs_mul, Int.natAbs_natCast]
    have : b.sign.natAbs ≤ 1 := by
      rw [Int.natAbs_sign]
      split <;> omega
    calc b.sign.natAbs * c.natAbs ≤ 1 * c.natAbs := Nat.mul_le_mul_right _ this
      _ ≤ g * c.natAbs := Nat.mul_le_mul_right _ g0
  · rw [Rat.den_divInt, if_neg hb]
    exact Nat.lt_of_le_of_lt (Nat.div_le_self _ _) h2
theorem mul_bits {i j : Int} {a b : Nat} (ha : i.natAbs < 2 ^ a) (hb : j.natAbs < 2 ^ b) : (i * j).natAbs < 2 ^ (a + b) := by
  rw [Int.natAbs_mul, Nat.pow_add]
  exact Nat.mul_lt_mul'' ha hb
theorem den_bits {k : Nat} {q : Rat} (h : Bits k q) : ((q.den : Int)).natAbs < 2 ^ k := by
  rw [Int.natAbs_natCast]
  exact h.2
theorem Bits.add {a b : Nat} {x y : Rat} (h : Bits a x) (g : Bits b y) : Bits (a + b + 1) (x + y) := by
  rw [← q_add]
  have h1 := mul_bits h.1 (den_bits g)
  have h2 := mul_bits g.1 (den_bits h)
  have h3 := mul_bits (den_bits h) (den_bits g)
  rw [Nat.add_comm b a] at h2
  refine bits_of (Int.mul_ne_zero (den_ne x) (den_ne y)) ?_ ?_
  · rw [Nat.pow_succ]
    omega
  · rw [Nat.pow_succ]
    omega
theorem Bits.sub {a b : Nat} {x y : Rat} (h : Bits a x) (g : Bits b y) : Bits (a + b + 1) (x - y) := by
  rw [← q_sub]
  have h1 := mul_bits h.1 (den_bits g)
  have h2 := mul_bits g.1 (den_bits h)
  have h3 := mul_bits (den_bits h) (den_bits g)
  rw [Nat.add_comm b a] at h2
  refine bits_of (Int.mul_ne_zero (den_ne x) (den_ne y)) ?_ ?_
  · rw [Nat.pow_succ]
    omega
  · rw [Nat.pow_succ]
    omega
theorem Bits.mul {a b : Nat} {x y : Rat} (h : Bits a x) (g : Bits b y) : Bits (a + b) (x * y) := by
  rw [← q_mul]
  exact bits_of (Int.mul_ne_zero (den_ne x) (den_ne y)) (mul_bits h.1 g.1) (mul_bits (den_bits h) (den_bits g))
theorem Bits.div {a b : Nat} {x y : Rat} (h : Bits a x) (g : Bits b y) (hy : y ≠ 0) : Bits (a + b) (x / y) := by
  rw [← q_div]
  exact bits_of (Int.mul_ne_zero (den_ne x) (num_ne hy)) (mul_bits h.1 (den_bits g)) (mul_bits (den_bits h) g.1)
section
variable {P : Program} {w : World} {K : PySem.W.Frag} {mg : Str → Option Value} {base : Heap}
theorem IsQ.up {H H' : Hp} {p : Addr} {q : Rat} (h : IsQ K H p q) (s : Same H H') : IsQ K H' p q := h.imp fun _ e => s _ _ e
theorem IsQ.inj {H : Hp} {p : Addr} {x y : Rat} (h : IsQ K H p x) (g : IsQ K H p y) : x = y := by
  obtain ⟨d, e⟩ := h
  obtain ⟨d', e'⟩ := g
  rw [e] at e'
  simp only [Option.some.injEq, HO.ins.injEq, amtQ, amtF, List.cons.injEq, Prod.mk.injEq, V.int.injEq, and_true, true_and] at e'
  exact Rat.ext e'.2.1 (by have := e'.2.2; omega)
theorem abs_gcd (t b : Int) : Int.gcd (if t < 0 then -t else t) (if b < 0 then -b else b) = Int.gcd t b := by
  have e : ∀ x : Int, (if x < 0 then -x else x).natAbs = x.natAbs := fun x => by split <;> simp
  show Nat.gcd _ _ = Nat.gcd _ _
  rw [e, e]
def badB : V → Bool
  | .int d => decide (d = 0)
  | _ => true
/-- Amount.__init__ -/
def spAmt (K : PySem.W.Frag) : Sp := fun vs H Q E => ∃ p dx t b, vs = [.ref p, t, b] ∧ H p = some (.ins (cA K) dx []) ∧ AnyV K H t ∧ AnyV K H b ∧
  ((∃ n d : Int, t = .int n ∧ b = .int d ∧ d ≠ 0 ∧ d.natAbs < 2 ^ 8000 ∧ Q .non (upd H p (.ins (cA K) dx (amtQ (Rat.divInt n d))))) ∨
    (wholeV t = false ∧ Rf K "InvalidInteger" "value" t H E) ∨ (wholeV t = true ∧ badB b = true ∧ Rf K "InvalidInteger" "value" b H E))
theorem log_lt {n k : Nat} (hk : 0 < k) (h : n < 2 ^ k) : n.log2 < k := PySem.Flt.log2_lt_of hk h
theorem sc_Amount_init_ : FnScope ["self", "top", "bottom", "factor"] ["self", "top", "bottom"] (defScope s_Amount_init_) := ⟨rfl, rfl, rfl, by decide +kernel, rfl, by decide +kernel, by decide +kernel⟩
theorem both_Amount (T : Tx K mg base) : Ok P w K mg base 3 (He.ma K (He.ga K "Amount") "__init__") ["self", "top", "bottom"] (spAmt K) ∧ OkD P w K mg base 3 (He.ma K (He.ga K "Amount") "__init__") ["self", "top", "bottom"] [.int 1] (spAmt K) := by
  refine mk_okD1 (k := 2) (n := 2) T.f_Amount_init_ sc_Amount_init_ rfl (fun _ _ _ _ _ _ _ us u hl => match us, hl with | [_, _], _ => ⟨_, rfl, rfl⟩) (fun _ _ _ _ _ _ _ us u hl => match us, hl with | [_, _, _], _ => ⟨_, rfl, rfl⟩) (fun vs H Q E h => ?_) (fun cdv A outer s H vs Q E hr h => ?_)
  · obtain ⟨p, dx, t, b, rfl, _⟩ := h
    rfl
  · obtain ⟨p, dx, t, b, rfl, hp, ht, hb, hc⟩ := h
    refine ⟨_, (pss_cons (ps_if (pt_not (pt_val (ok_call (ok_is_whole T) (hr.mono (by decide)) rfl T.g_is_whole passL (pa_cons (pv 1) pa_nil)))) (pss_one (ps_rs rfl (mx_InvalidInteger T (hr.mono (by decide))) (takes_of rfl rfl rfl rfl) rfl (pv 1))) pss_nil)
      (pss_cons (ps_if (PW.pt (pw_or (pt_not (pt_val (ok_call (ok_is_whole T) (hr.mono (by decide)) rfl T.g_is_whole passL (pa_cons (pv 2) pa_nil)))) (pw_or1 (pt_cmpR op_eq (pv 2) pe_int (nomark _))))) (pss_one (ps_rs rfl (mx_InvalidInteger T (hr.mono (by decide))) (takes_of rfl rfl rfl rfl) rfl (pv 2))) pss_nil)
      (pss_cons (ps_set (i := 3) sc_Amount_init_.nd rfl (Or.inl rfl) (ok_call (ok_common_factor T) (hr.mono (by decide)) rfl T.g_common_factor passL (pa_cons (pe_callB call_abs (by rfl) T.b_abs (by decide +kernel) (pa_cons (pv 1) pa_nil)) (pa_cons (pe_callB call_abs (by rfl) T.b_abs (by decide +kernel) (pa_cons (pv 2) pa_nil)) pa_nil))))
      (pss_cons (ps_if (pt_cmpR op_lt (pv 2) pe_int (nomark _)) (pss_one (ps_set (i := 3) sc_Amount_init_.nd rfl (Or.inl rfl) (pe_un un_neg (pv 3)))) pss_nil)
      (pss_cons (ps_fld (pv 0) (pe_op op_fdivZ (pv 1) (pv 3)) rfl)
      (pss_one (ps_fld (pv 0) (pe_op op_fdivZ (pv 2) (pv 3)) rfl))))))), ?_⟩
    refine ⟨_, rfl, t, rfl, ht, _, rfl, ?_⟩
    rcases hc with ⟨n, d, rfl, rfl, h0, hbig, k3⟩ | ⟨e, k1⟩ | ⟨e, eb, k2⟩
    · refine iteF ⟨_, rfl, .int d, rfl, hb, _, rfl, iteF ⟨_, rfl, rfl, _, rfl, ?_⟩⟩
      rw [decide_eq_false (fun q => h0 (V.int.inj q))]
      refine iteF ⟨_, rfl, n, rfl, _, rfl, d, rfl, _, _, rfl, (by split <;> omega), (by split <;> omega), ?_⟩
      rw [abs_gcd]
      have key : ∀ f : Int, f = fac n d → f ≠ 0 → f.natAbs.log2 < 9000 → ∀ σ, σ = ([some (.ref p), some (.int n), some (.int d), some (.int f)] : L2.St) →
          tSeq (sFld K (tVar 0) (tOp (rI CDivZ fun i j => .int (i.fdiv j)) (tVar 1) (tVar 3)) "own_top") (sFld K (tVar 0) (tOp (rI CDivZ fun i j => .int (i.fdiv j)) (tVar 2) (tVar 3)) "own_bottom") { nx := fun _ H' => Q .non H', rt := Q } σ H := by
        rintro f rfl hf hl σ rfl
        refine ⟨_, rfl, _, rfl, _, _, rfl, rfl, ⟨hf, hl⟩, _, rfl, p, _, dx, _, rfl, hp, T.cls_Amount, T.no_Amount_own_top, (by decide), ?_⟩
        refine ⟨_, rfl, _, rfl, _, _, rfl, rfl, ⟨hf, hl⟩, _, rfl, p, _, dx, _, rfl, upd_same, T.cls_Amount, T.no_Amount_own_bottom, (by show 1 < 1000; decide), ?_⟩
        rw [upd_upd]
        show Q .non (upd H p (.ins (cA K) dx (amtF (n.fdiv (fac n d)) (d.fdiv (fac n d)))))
        rw [low_num h0, low_den h0]
        exact k3
      have hg := gcd_pos (t := n) h0
      have hle := gcd_le (t := n) h0
      have hlog : (Int.gcd n d).log2 < 9000 := log_lt (by decide) (Nat.lt_of_le_of_lt hle (Nat.lt_trans hbig (Nat.pow_lt_pow_right (by decide) (by decide))))
      refine ⟨_, rfl, _, _, rfl, rfl, _, rfl, ?_⟩
      refine ite2 (fun h1 => ?_) (fun h1 => ?_)
      · have h1' : d < 0 := of_decide_eq_true h1
        refine ⟨_, rfl, _, rfl, ?_⟩
        exact key (-(Int.gcd n d : Nat)) (by unfold fac; rw [if_pos h1']) (by omega) (by rw [Int.natAbs_neg, Int.natAbs_natCast]; exact hlog) _ rfl
      · have h1' : ¬ d < 0 := of_decide_eq_false (by simpa using h1)
        exact key (Int.gcd n d : Nat) (by unfold fac; rw [if_neg h1']) (by omega) (by rw [Int.natAbs_natCast]; exact hlog) _ rfl
    · rw [e]
      exact iteT ⟨_, rfl, mk_at T.xc_InvalidInteger.oex T.xc_InvalidInteger.no (rf_of k1)⟩
    · rw [e]
      refine iteF ⟨_, rfl, b, rfl, hb, _, rfl, ?_⟩
      cases hb with
      | int d =>
        have h0 : d = 0 := of_decide_eq_true eb
        subst h0
        refine iteF ⟨_, rfl, rfl, _, rfl, ?_⟩
        rw [decide_eq_true rfl]
        exact iteT ⟨_, rfl, mk_at T.xc_InvalidInteger.oex T.xc_InvalidInteger.no (rf_of k2)⟩
      | _ => exact iteT (iteT ⟨_, rfl, mk_at T.xc_InvalidInteger.oex T.xc_InvalidInteger.no (rf_of k2)⟩)
theorem ok_Amount_init_ (T : Tx K mg base) : Ok P w K mg base 3 (He.ma K (He.ga K "Amount") "__init__") ["self", "top", "bottom"] (spAmt K) := (both_Amount T).1
theorem okd_Amount_init_ (T : Tx K mg base) : OkD P w K mg base 3 (He.ma K (He.ga K "Amount") "__init__") ["self", "top", "bottom"] [.int 1] (spAmt K) := (both_Amount T).2
theorem made_same {H : Hp} {x dx : Addr} {o1 o2 : HO} (hx : H x = none) (hdx : H dx = none) : Same H (upd (upd (upd H dx (.own x)) x o1) x o2) := AT.Same.new (AT.Same.new (AT.Same.up hdx) hx) hx
end
end K09

set_option maxHeartbeats 4000000
namespace K09
open PySem PySem.Spec PyProof.Rows L2 AT
/-! ### amounts: what a value stands for -/
inductive Qv (K : PySem.W.Frag) (H : Hp) : V → Rat → Prop where
  | obj {a : Addr} {q : Rat} (h : IsQ K H a q) : Qv K H (.ref a) q
  | int (i : Int) : Qv K H (.int i) (i : Rat)
theorem Qv.up {K : PySem.W.Frag} {H H' : Hp} {v : V} {q : Rat} (h : Qv K H v q) (s : Same H H') : Qv K H' v q := by
  cases h with
  | obj h => exact .obj (h.up s)
  | int i => exact .int i
theorem Qv.any {K : PySem.W.Frag} {H : Hp} {v : V} {q : Rat} (h : Qv K H v q) : AnyV K H v := by
  cases h with
  | obj h => exact .amt h
  | int i => exact .int i
def isA (K : PySem.W.Frag) (H : Hp) (v : V) : Prop := ∃ q, Qv K H v q
section
variable {P : Program} {w : World} {K : PySem.W.Frag} {mg : Str → Option Value} {base : Heap}
theorem isi_amt (T : Tx K mg base) {H : Hp} {v : V} (h : AnyV K H v) : ∃ t b, TyX K H v t ∧ PySem.W.kitOne K t (.ref (cA K)) = some b ∧ ((b = true ∧ ∃ a q, v = .ref a ∧ IsQ K H a q) ∨ (b = false ∧ ((∃ i, v = .int i) ∨ (wholeV v = false ∧ ¬ isA K H v)))) := by
  have no : ∀ {a : Addr} {o : HO}, H a = some o → (∀ d fs, o ≠ .ins (cA K) d fs) → ¬ isA K H (.ref a) := by
    rintro a o e hn ⟨q, hq⟩
    cases hq with
    | obj h =>
      obtain ⟨d, z⟩ := h
      rw [e] at z
      cases z
      exact hn _ _ rfl
  cases h with
  | non => exact ⟨_, _, .base .non, T.k_NoneType_Amount, .inr ⟨rfl, .inr ⟨rfl, fun ⟨_, q⟩ => nomatch q⟩⟩⟩
  | bl b => exact ⟨_, _, .base (.bl b), T.k_bool_Amount, .inr ⟨rfl, .inr ⟨rfl, fun ⟨_, q⟩ => nomatch q⟩⟩⟩
  | int i => exact ⟨_, _, .base (.int i), T.k_int_Amount, .inr ⟨rfl, .inl ⟨i, rfl⟩⟩⟩
  | str x => exact ⟨_, _, .base (.str x), T.k_str_Amount, .inr ⟨rfl, .inr ⟨rfl, fun ⟨_, q⟩ => nomatch q⟩⟩⟩
  | lst e => exact ⟨_, _, .base (.lst e), T.k_list_Amount, .inr ⟨rfl, .inr ⟨rfl, no e fun _ _ z => nomatch z⟩⟩⟩
  | tup e => exact ⟨_, _, .base (.tup e), T.k_tuple_Amount, .inr ⟨rfl, .inr ⟨rfl, no e fun _ _ z => nomatch z⟩⟩⟩
  | dct e => exact ⟨_, _, .base (.dK e), T.k_dict_Amount, .inr ⟨rfl, .inr ⟨rfl, no e fun _ _ z => nomatch z⟩⟩⟩
  | oth o e => exact ⟨_, _, o.ty e, o.amt, .inr ⟨rfl, .inr ⟨rfl, no e fun _ _ z => o.ne (by cases z; rfl)⟩⟩⟩
  | amt e =>
    obtain ⟨dx, e1⟩ := id e
    exact ⟨_, _, T.ins_Amount e1, T.k_Amount_Amount, .inl ⟨rfl, _, _, rfl, e⟩⟩
def spTop (K : PySem.W.Frag) : Sp := fun vs H Q _ => ∃ a q, vs = [.ref a] ∧ IsQ K H a q ∧ Q (.int q.num) H
def spBot (K : PySem.W.Frag) : Sp := fun vs H Q _ => ∃ a q, vs = [.ref a] ∧ IsQ K H a q ∧ Q (.int q.den) H
theorem sc_Amount_top : FnScope ["self"] ["self"] (defScope s_Amount_top) := ⟨rfl, rfl, rfl, by decide +kernel, rfl, by decide +kernel, by decide +kernel⟩
theorem ok_Amount_top (T : Tx K mg base) : Ok P w K mg base 1 (d_Amount_top.loc K) ["self"] (spTop K) := by
  refine mk_ok (k := 0) T.f_Amount_top sc_Amount_top (fun _ _ _ _ _ _ us hl => match us, hl with | [_], _ => rfl) (fun vs H Q E h => ?_) (fun cdv A outer s H vs Q E hr h => ?_)
  · obtain ⟨a, q, rfl, _⟩ := h
    rfl
  · obtain ⟨a, q, rfl, ⟨dx, ha⟩, k⟩ := h
    refine ⟨_, (pss_one (ps_ret (pe_fld (pv 0) rfl))), ?_⟩
    exact ⟨_, rfl, a, _, dx, _, _, rfl, ha, T.cls_Amount, T.no_Amount_own_top, rfl, k⟩
theorem sc_Amount_bottom : FnScope ["self"] ["self"] (defScope s_Amount_bottom) := ⟨rfl, rfl, rfl, by decide +kernel, rfl, by decide +kernel, by decide +kernel⟩
theorem ok_Amount_bottom (T : Tx K mg base) : Ok P w K mg base 1 (d_Amount_bottom.loc K) ["self"] (spBot K) := by
  refine mk_ok (k := 0) T.f_Amount_bottom sc_Amount_bottom (fun _ _ _ _ _ _ us hl => match us, hl with | [_], _ => rfl) (fun vs H Q E h => ?_) (fun cdv A outer s H vs Q E hr h => ?_)
  · obtain ⟨a, q, rfl, _⟩ := h
    rfl
  · obtain ⟨a, q, rfl, ⟨dx, ha⟩, k⟩ := h
    refine ⟨_, (pss_one (ps_ret (pe_fld (pv 0) rfl))), ?_⟩
    exact ⟨_, rfl, a, _, dx, _, _, rfl, ha, T.cls_Amount, T.no_Amount_own_bottom, rfl, k⟩
def spFrom (K : PySem.W.Frag) : Sp := fun vs H Q E => ∃ v, vs = [v] ∧ AnyV K H v ∧ ((∃ q, Qv K H v q ∧ ∀ p H', Same H H' → IsQ K H' p q → Q (.ref p) H') ∨ (wholeV v = false ∧ ¬ isA K H v ∧ Rf K "InvalidAmount" "value" v H E))
theorem sc_amount_from : FnScope ["value"] ["value"] (defScope s_amount_from) := ⟨rfl, rfl, rfl, by decide +kernel, rfl, by decide +kernel, by decide +kernel⟩
theorem ok_amount_from (T : Tx K mg base) : Ok P w K mg base 5 (d_amount_from.loc K) ["value"] (spFrom K) := by
  refine mk_ok (k := 4) T.f_amount_from sc_amount_from (fun _ _ _ _ _ _ us hl => match us, hl with | [_], _ => rfl) (fun vs H Q E h => ?_) (fun cdv A outer s H vs Q E hr h => ?_)
  · obtain ⟨v, rfl, _⟩ := h
    rfl
  · obtain ⟨v, rfl, hv, hc⟩ := h
    refine ⟨_, (pss_cons (ps_if (pt_val (pe_callB call_isi (by rfl) T.b_isinstance (by decide +kernel) (pa_cons (pv 0) (pa_cons (pe_gr T.g_Amount) pa_nil)))) (pss_one (ps_ret (pv 0))) pss_nil)
      (pss_cons (ps_if (pt_not (pt_val (ok_call (ok_is_whole T) (hr.mono (by decide)) rfl T.g_is_whole passL (pa_cons (pv 0) pa_nil)))) (pss_one (ps_rs rfl (mx_InvalidAmount T (hr.mono (by decide))) (takes_of rfl rfl rfl rfl) rfl (pv 0))) pss_nil)
      (pss_one (ps_ret (ok_makeD T.mkr_Amount (okd_Amount_init_ T) (hr.mono (by decide)) rfl T.g_Amount (passE rfl rfl rfl rfl) (pa_cons (pv 0) pa_nil)))))), ?_⟩
    obtain ⟨t, b, ty, kit, hb⟩ := isi_amt T hv
    refine ⟨_, rfl, _, _, _, _, _, rfl, .own _, ty, kit, _, rfl, ?_⟩
    rcases hc with ⟨q, hq, k⟩ | ⟨hw, hno, k⟩
    · rcases hb with ⟨rfl, a, q', rfl, ha⟩ | ⟨rfl, hi⟩
      · cases hq with
        | obj h => exact iteT ⟨_, rfl, k a H (Same.refl _) h⟩
      · refine iteF ⟨_, rfl, v, rfl, hv, _, rfl, ?_⟩
        rcases hi with ⟨i, rfl⟩ | ⟨_, hno⟩
        · refine iteF ⟨_, rfl, fun x dx hx hdx hne => ⟨x, dx, _, _, rfl, upd_same, .int _, .int _, .inl ⟨i, 1, rfl, rfl, by decide, by decide +kernel, rfl, ?_⟩⟩⟩
          cases hq
          refine k x _ (made_same hx hdx) ⟨dx, ?_⟩
          rw [upd_same, q_int]
          rfl
        · exact absurd ⟨q, hq⟩ hno
    · rcases hb with ⟨rfl, a, q', rfl, ha⟩ | ⟨rfl, hi⟩
      · exact absurd ⟨_, .obj ha⟩ hno
      · refine iteF ⟨_, rfl, v, rfl, hv, _, rfl, ?_⟩
        rw [hw]
        exact iteT ⟨_, rfl, mk_at T.xc_InvalidAmount.oex T.xc_InvalidAmount.no (rf_of k)⟩
def spIsA (K : PySem.W.Frag) : Sp := fun vs H Q _ => ∃ v, vs = [v] ∧ AnyV K H v ∧ (isA K H v → Q (.bl true) H) ∧ (¬ isA K H v → Q (.bl false) H)
theorem sc_is_amount : FnScope ["value"] ["value"] (defScope s_is_amount) := ⟨rfl, rfl, rfl, by decide +kernel, rfl, by decide +kernel, by decide +kernel⟩
theorem ok_is_amount (T : Tx K mg base) : Ok P w K mg base 2 (d_is_amount.loc K) ["value"] (spIsA K) := by
  refine mk_ok (k := 1) T.f_is_amount sc_is_amount (fun _ _ _ _ _ _ us hl => match us, hl with | [_], _ => rfl) (fun vs H Q E h => ?_) (fun cdv A outer s H vs Q E hr h => ?_)
  · obtain ⟨v, rfl, _⟩ := h
    rfl
  · obtain ⟨v, rfl, hv, k1, k2⟩ := h
    refine ⟨_, (pss_one (ps_ret (pe_or (pe_callB call_isi (by rfl) T.b_isinstance (by decide +kernel) (pa_cons (pv 0) (pa_cons (pe_gr T.g_Amount) pa_nil))) (pe_one (ok_call (ok_is_whole T) (hr.mono (by decide)) rfl T.g_is_whole passL (pa_cons (pv 0) pa_nil)))))), ?_⟩
    obtain ⟨t, b, ty, kit, hb⟩ := isi_amt T hv
    refine ⟨_, rfl, _, _, _, _, _, rfl, .own _, ty, kit, _, rfl, ?_⟩
    rcases hb with ⟨rfl, a, q', rfl, ha⟩ | ⟨rfl, hi⟩
    · exact iteT (k1 ⟨_, .obj ha⟩)
    · refine iteF ⟨_, rfl, v, rfl, hv, ?_⟩
      rcases hi with ⟨i, rfl⟩ | ⟨hw, hno⟩
      · exact k1 ⟨_, .int i⟩
      · rw [hw]
        exact k2 hno
end
end K09

set_option maxHeartbeats 4000000
namespace K09
open PySem PySem.Spec PyProof.Rows L2 AT
section
variable {P : Program} {w : World} {K : PySem.W.Frag} {mg : Str → Option Value} {base : Heap}
theorem mul_ok {i j : Int} (h : i.natAbs < 2 ^ 3000) (g : j.natAbs < 2 ^ 3000) : CMulW i j := wide_mul (a := 3000) (b := 3000) h g (by decide) (by decide) (by decide)
theorem bot_ok {i j : Int} (h : i.natAbs < 2 ^ 3000) (g : j.natAbs < 2 ^ 3000) : (i * j).natAbs < 2 ^ 8000 := Nat.lt_of_lt_of_le (mul_bits h g) (Nat.pow_le_pow_right (by decide) (by decide))
/-- a op b of two amounts: a new amount -/
def spBin (op : Rat → Rat → Rat) (K : PySem.W.Frag) : Sp := fun vs H Q E => ∃ a v x, vs = [.ref a, v] ∧ IsQ K H a x ∧ Bits 3000 x ∧ AnyV K H v ∧
  ((∃ y, Qv K H v y ∧ Bits 3000 y ∧ ∀ p H', Same H H' → H p = none → IsQ K H' p (op x y) → Q (.ref p) H') ∨ (wholeV v = false ∧ ¬ isA K H v ∧ Rf K "InvalidAmount" "value" v H E))
theorem none_of {H H' : Hp} {x : Addr} (s : Same H H') (h : H' x = none) : H x = none := by
  cases q : H x with
  | none => rfl
  | some o => rw [s _ _ q] at h; cases h
theorem sc_Amount_add_ : FnScope ["self", "other", "by"] ["self", "other"] (defScope s_Amount_add_) := ⟨rfl, rfl, rfl, by decide +kernel, rfl, by decide +kernel, by decide +kernel⟩
theorem ok_Amount_add_ (T : Tx K mg base) : Ok P w K mg base 6 (d_Amount_add_.loc K) ["self", "other"] (spBin (fun x y => x + y) K) := by
  refine mk_ok (k := 5) T.f_Amount_add_ sc_Amount_add_ (fun _ _ _ _ _ _ us hl => match us, hl with | [_, _], _ => rfl) (fun vs H Q E h => ?_) (fun cdv A outer s H vs Q E hr h => ?_)
  · obtain ⟨a, v, x, rfl, _⟩ := h
    rfl
  · obtain ⟨a, v, x, rfl, ha, bx, hv, hc⟩ := h
    refine ⟨_, (pss_cons (ps_set (i := 2) sc_Amount_add_.nd rfl (Or.inl rfl) (ok_call (ok_amount_from T) (hr.mono (by decide)) rfl T.g_amount_from (passE rfl rfl rfl rfl) (pa_cons (pv 1) pa_nil)))
      (pss_one (ps_ret (ok_make T.mkr_Amount (ok_Amount_init_ T) (hr.mono (by decide)) rfl T.g_Amount (passE rfl rfl rfl rfl) (pa_cons (pe_op op_add (pe_op op_mulW (pe_fld (pv 0) rfl) (pe_fld (pv 2) rfl)) (pe_op op_mulW (pe_fld (pv 2) rfl) (pe_fld (pv 0) rfl))) (pa_cons (pe_op op_mulW (pe_fld (pv 0) rfl) (pe_fld (pv 2) rfl)) pa_nil)))))), ?_⟩
    rcases hc with ⟨y, hy, by_, k⟩ | ⟨hw, hno, k⟩
    · refine ⟨_, rfl, v, rfl, hv, .inl ⟨y, hy, fun p H1 s1 hq => ?_⟩⟩
      obtain ⟨da, ha1⟩ := ha.up s1
      obtain ⟨dp, hp⟩ := hq
      refine ⟨_, rfl, a, _, da, _, _, rfl, ha1, T.cls_Amount, T.no_Amount_own_top, rfl, _, rfl, p, _, dp, _, _, rfl, hp, T.cls_Amount, T.no_Amount_own_bottom, rfl, _, _, rfl, rfl, mul_ok bx.1 (den_bits by_), ?_⟩
      refine ⟨_, rfl, p, _, dp, _, _, rfl, hp, T.cls_Amount, T.no_Amount_own_top, rfl, _, rfl, a, _, da, _, _, rfl, ha1, T.cls_Amount, T.no_Amount_own_bottom, rfl, _, _, rfl, rfl, mul_ok by_.1 (den_bits bx), ?_⟩
      refine ⟨_, _, rfl, rfl, ?_⟩
      refine ⟨_, rfl, a, _, da, _, _, rfl, ha1, T.cls_Amount, T.no_Amount_own_bottom, rfl, _, rfl, p, _, dp, _, _, rfl, hp, T.cls_Amount, T.no_Amount_own_bottom, rfl, _, _, rfl, rfl, mul_ok (den_bits bx) (den_bits by_), ?_⟩
      refine fun q dq hq hdq hne => ⟨q, dq, _, _, rfl, upd_same, .int _, .int _, .inl ⟨_, _, rfl, rfl, Int.mul_ne_zero (den_ne x) (den_ne y), bot_ok (den_bits bx) (den_bits by_), rfl, ?_⟩⟩
      refine k q _ (s1.trans (made_same hq hdq)) (none_of s1 hq) ⟨dq, ?_⟩
      rw [upd_same, q_add]
      rfl
    · exact ⟨_, rfl, v, rfl, hv, .inr ⟨hw, hno, k⟩⟩
theorem sc_Amount_sub_ : FnScope ["self", "other", "by"] ["self", "other"] (defScope s_Amount_sub_) := ⟨rfl, rfl, rfl, by decide +kernel, rfl, by decide +kernel, by decide +kernel⟩
theorem ok_Amount_sub_ (T : Tx K mg base) : Ok P w K mg base 6 (d_Amount_sub_.loc K) ["self", "other"] (spBin (fun x y => x - y) K) := by
  refine mk_ok (k := 5) T.f_Amount_sub_ sc_Amount_sub_ (fun _ _ _ _ _ _ us hl => match us, hl with | [_, _], _ => rfl) (fun vs H Q E h => ?_) (fun cdv A outer s H vs Q E hr h => ?_)
  · obtain ⟨a, v, x, rfl, _⟩ := h
    rfl
  · obtain ⟨a, v, x, rfl, ha, bx, hv, hc⟩ := h
    refine ⟨_, (pss_cons (ps_set (i := 2) sc_Amount_sub_.nd rfl (Or.inl rfl) (ok_call (ok_amount_from T) (hr.mono (by decide)) rfl T.g_amount_from (passE rfl rfl rfl rfl) (pa_cons (pv 1) pa_nil)))
      (pss_one (ps_ret (ok_make T.mkr_Amount (ok_Amount_init_ T) (hr.mono (by decide)) rfl T.g_Amount (passE rfl rfl rfl rfl) (pa_cons (pe_op op_sub (pe_op op_mulW (pe_fld (pv 0) rfl) (pe_fld (pv 2) rfl)) (pe_op op_mulW (pe_fld (pv 2) rfl) (pe_fld (pv 0) rfl))) (pa_cons (pe_op op_mulW (pe_fld (pv 0) rfl) (pe_fld (pv 2) rfl)) pa_nil)))))), ?_⟩
    rcases hc with ⟨y, hy, by_, k⟩ | ⟨hw, hno, k⟩
    · refine ⟨_, rfl, v, rfl, hv, .inl ⟨y, hy, fun p H1 s1 hq => ?_⟩⟩
      obtain ⟨da, ha1⟩ := ha.up s1
      obtain ⟨dp, hp⟩ := hq
      refine ⟨_, rfl, a, _, da, _, _, rfl, ha1, T.cls_Amount, T.no_Amount_own_top, rfl, _, rfl, p, _, dp, _, _, rfl, hp, T.cls_Amount, T.no_Amount_own_bottom, rfl, _, _, rfl, rfl, mul_ok bx.1 (den_bits by_), ?_⟩
      refine ⟨_, rfl, p, _, dp, _, _, rfl, hp, T.cls_Amount, T.no_Amount_own_top, rfl, _, rfl, a, _, da, _, _, rfl, ha1, T.cls_Amount, T.no_Amount_own_bottom, rfl, _, _, rfl, rfl, mul_ok by_.1 (den_bits bx), ?_⟩
      refine ⟨_, _, rfl, rfl, ?_⟩
      refine ⟨_, rfl, a, _, da, _, _, rfl, ha1, T.cls_Amount, T.no_Amount_own_bottom, rfl, _, rfl, p, _, dp, _, _, rfl, hp, T.cls_Amount, T.no_Amount_own_bottom, rfl, _, _, rfl, rfl, mul_ok (den_bits bx) (den_bits by_), ?_⟩
      refine fun q dq hq hdq hne => ⟨q, dq, _, _, rfl, upd_same, .int _, .int _, .inl ⟨_, _, rfl, rfl, Int.mul_ne_zero (den_ne x) (den_ne y), bot_ok (den_bits bx) (den_bits by_), rfl, ?_⟩⟩
      refine k q _ (s1.trans (made_same hq hdq)) (none_of s1 hq) ⟨dq, ?_⟩
      rw [upd_same, q_sub]
      rfl
    · exact ⟨_, rfl, v, rfl, hv, .inr ⟨hw, hno, k⟩⟩
theorem sc_Amount_mul_ : FnScope ["self", "other", "by"] ["self", "other"] (defScope s_Amount_mul_) := ⟨rfl, rfl, rfl, by decide +kernel, rfl, by decide +kernel, by decide +kernel⟩
theorem ok_Amount_mul_ (T : Tx K mg base) : Ok P w K mg base 6 (d_Amount_mul_.loc K) ["self", "other"] (spBin (fun x y => x * y) K) := by
  refine mk_ok (k := 5) T.f_Amount_mul_ sc_Amount_mul_ (fun _ _ _ _ _ _ us hl => match us, hl with | [_, _], _ => rfl) (fun vs H Q E h => ?_) (fun cdv A outer s H vs Q E hr h => ?_)
  · obtain ⟨a, v, x, rfl, _⟩ := h
    rfl
  · obtain ⟨a, v, x, rfl, ha, bx, hv, hc⟩ := h
    refine ⟨_, (pss_cons (ps_set (i := 2) sc_Amount_mul_.nd rfl (Or.inl rfl) (ok_call (ok_amount_from T) (hr.mono (by decide)) rfl T.g_amount_from (passE rfl rfl rfl rfl) (pa_cons (pv 1) pa_nil)))
      (pss_one (ps_ret (ok_make T.mkr_Amount (ok_Amount_init_ T) (hr.mono (by decide)) rfl T.g_Amount (passE rfl rfl rfl rfl) (pa_cons (pe_op op_mulW (pe_fld (pv 0) rfl) (pe_fld (pv 2) rfl)) (pa_cons (pe_op op_mulW (pe_fld (pv 0) rfl) (pe_fld (pv 2) rfl)) pa_nil)))))), ?_⟩
    rcases hc with ⟨y, hy, by_, k⟩ | ⟨hw, hno, k⟩
    · refine ⟨_, rfl, v, rfl, hv, .inl ⟨y, hy, fun p H1 s1 hq => ?_⟩⟩
      obtain ⟨da, ha1⟩ := ha.up s1
      obtain ⟨dp, hp⟩ := hq
      refine ⟨_, rfl, a, _, da, _, _, rfl, ha1, T.cls_Amount, T.no_Amount_own_top, rfl, _, rfl, p, _, dp, _, _, rfl, hp, T.cls_Amount, T.no_Amount_own_top, rfl, _, _, rfl, rfl, mul_ok bx.1 by_.1, ?_⟩
      refine ⟨_, rfl, a, _, da, _, _, rfl, ha1, T.cls_Amount, T.no_Amount_own_bottom, rfl, _, rfl, p, _, dp, _, _, rfl, hp, T.cls_Amount, T.no_Amount_own_bottom, rfl, _, _, rfl, rfl, mul_ok (den_bits bx) (den_bits by_), ?_⟩
      refine fun q dq hq hdq hne => ⟨q, dq, _, _, rfl, upd_same, .int _, .int _, .inl ⟨_, _, rfl, rfl, Int.mul_ne_zero (den_ne x) (den_ne y), bot_ok (den_bits bx) (den_bits by_), rfl, ?_⟩⟩
      refine k q _ (s1.trans (made_same hq hdq)) (none_of s1 hq) ⟨dq, ?_⟩
      rw [upd_same, q_mul]
      rfl
    · exact ⟨_, rfl, v, rfl, hv, .inr ⟨hw, hno, k⟩⟩
def spDiv (K : PySem.W.Frag) : Sp := fun vs H Q E => ∃ a v x, vs = [.ref a, v] ∧ IsQ K H a x ∧ Bits 3000 x ∧ AnyV K H v ∧
  ((∃ y, Qv K H v y ∧ Bits 3000 y ∧ y ≠ 0 ∧ ∀ p H', Same H H' → H p = none → IsQ K H' p (x / y) → Q (.ref p) H') ∨ (Qv K H v 0 ∧ Rf K "InvalidAmount" "value" v H E) ∨ (wholeV v = false ∧ ¬ isA K H v ∧ Rf K "InvalidAmount" "value" v H E))
theorem sc_Amount_divided : FnScope ["self", "other", "by"] ["self", "other"] (defScope s_Amount_divided) := ⟨rfl, rfl, rfl, by decide +kernel, rfl, by decide +kernel, by decide +kernel⟩
theorem ok_Amount_divided (T : Tx K mg base) : Ok P w K mg base 6 (d_Amount_divided.loc K) ["self", "other"] (spDiv K) := by
  refine mk_ok (k := 5) T.f_Amount_divided sc_Amount_divided (fun _ _ _ _ _ _ us hl => match us, hl with | [_, _], _ => rfl) (fun vs H Q E h => ?_) (fun cdv A outer s H vs Q E hr h => ?_)
  · obtain ⟨a, v, x, rfl, _⟩ := h
    rfl
  · obtain ⟨a, v, x, rfl, ha, bx, hv, hc⟩ := h
    refine ⟨_, (pss_cons (ps_set (i := 2) sc_Amount_divided.nd rfl (Or.inl rfl) (ok_call (ok_amount_from T) (hr.mono (by decide)) rfl T.g_amount_from (passE rfl rfl rfl rfl) (pa_cons (pv 1) pa_nil)))
      (pss_cons (ps_if (pt_cmpR op_eq (pe_fld (pv 2) rfl) pe_int (nomark _)) (pss_one (ps_rs rfl (mx_InvalidAmount T (hr.mono (by decide))) (takes_of rfl rfl rfl rfl) rfl (pv 1))) pss_nil)
      (pss_one (ps_ret (ok_make T.mkr_Amount (ok_Amount_init_ T) (hr.mono (by decide)) rfl T.g_Amount (passE rfl rfl rfl rfl) (pa_cons (pe_op op_mulW (pe_fld (pv 0) rfl) (pe_fld (pv 2) rfl)) (pa_cons (pe_op op_mulW (pe_fld (pv 0) rfl) (pe_fld (pv 2) rfl)) pa_nil))))))), ?_⟩
    rcases hc with ⟨y, hy, by_, y0, k⟩ | ⟨hy, k⟩ | ⟨hw, hno, k⟩
    · refine ⟨_, rfl, v, rfl, hv, .inl ⟨y, hy, fun p H1 s1 hq => ?_⟩⟩
      obtain ⟨da, ha1⟩ := ha.up s1
      obtain ⟨dp, hp⟩ := hq
      refine ⟨_, rfl, p, _, dp, _, _, rfl, hp, T.cls_Amount, T.no_Amount_own_top, rfl, rfl, _, rfl, ?_⟩
      rw [decide_eq_false (fun z => num_ne y0 (V.int.inj z))]
      refine iteF ⟨_, rfl, a, _, da, _, _, rfl, ha1, T.cls_Amount, T.no_Amount_own_top, rfl, _, rfl, p, _, dp, _, _, rfl, hp, T.cls_Amount, T.no_Amount_own_bottom, rfl, _, _, rfl, rfl, mul_ok bx.1 (den_bits by_), ?_⟩
      refine ⟨_, rfl, a, _, da, _, _, rfl, ha1, T.cls_Amount, T.no_Amount_own_bottom, rfl, _, rfl, p, _, dp, _, _, rfl, hp, T.cls_Amount, T.no_Amount_own_top, rfl, _, _, rfl, rfl, mul_ok (den_bits bx) by_.1, ?_⟩
      refine fun q dq hq hdq hne => ⟨q, dq, _, _, rfl, upd_same, .int _, .int _, .inl ⟨_, _, rfl, rfl, Int.mul_ne_zero (den_ne x) (num_ne y0), bot_ok (den_bits bx) by_.1, rfl, ?_⟩⟩
      refine k q _ (s1.trans (made_same hq hdq)) (none_of s1 hq) ⟨dq, ?_⟩
      rw [upd_same, q_div]
      rfl
    · refine ⟨_, rfl, v, rfl, hv, .inl ⟨0, hy, fun p H1 s1 hq => ?_⟩⟩
      obtain ⟨dp, hp⟩ := hq
      refine ⟨_, rfl, p, _, dp, _, _, rfl, hp, T.cls_Amount, T.no_Amount_own_top, rfl, rfl, _, rfl, ?_⟩
      rw [decide_eq_true (show V.int (Rat.num 0) = V.int 0 from rfl)]
      exact iteT ⟨_, rfl, mk_at T.xc_InvalidAmount.oex T.xc_InvalidAmount.no (rf_of (k.up s1))⟩
    · exact ⟨_, rfl, v, rfl, hv, .inr ⟨hw, hno, k⟩⟩
def spNeg (K : PySem.W.Frag) : Sp := fun vs H Q _ => ∃ a x, vs = [.ref a] ∧ IsQ K H a x ∧ Bits 3000 x ∧ ∀ p H', Same H H' → H p = none → IsQ K H' p (-x) → Q (.ref p) H'
theorem sc_Amount_neg_ : FnScope ["self"] ["self"] (defScope s_Amount_neg_) := ⟨rfl, rfl, rfl, by decide +kernel, rfl, by decide +kernel, by decide +kernel⟩
theorem ok_Amount_neg_ (T : Tx K mg base) : Ok P w K mg base 6 (d_Amount_neg_.loc K) ["self"] (spNeg K) := by
  refine mk_ok (k := 5) T.f_Amount_neg_ sc_Amount_neg_ (fun _ _ _ _ _ _ us hl => match us, hl with | [_], _ => rfl) (fun vs H Q E h => ?_) (fun cdv A outer s H vs Q E hr h => ?_)
  · obtain ⟨a, x, rfl, _⟩ := h
    rfl
  · obtain ⟨a, x, rfl, ha, bx, k⟩ := h
    refine ⟨_, (pss_one (ps_ret (ok_make T.mkr_Amount (ok_Amount_init_ T) (hr.mono (by decide)) rfl T.g_Amount (passE rfl rfl rfl rfl) (pa_cons (pe_un un_neg (pe_fld (pv 0) rfl)) (pa_cons (pe_fld (pv 0) rfl) pa_nil))))), ?_⟩
    obtain ⟨da, ha1⟩ := id ha
    refine ⟨_, rfl, a, _, da, _, _, rfl, ha1, T.cls_Amount, T.no_Amount_own_top, rfl, _, rfl, ?_⟩
    refine ⟨_, rfl, a, _, da, _, _, rfl, ha1, T.cls_Amount, T.no_Amount_own_bottom, rfl, ?_⟩
    refine fun q dq hq hdq hne => ⟨q, dq, _, _, rfl, upd_same, .int _, .int _, .inl ⟨_, _, rfl, rfl, den_ne x, Nat.lt_of_lt_of_le (den_bits bx) (Nat.pow_le_pow_right (by decide) (by decide)), rfl, ?_⟩⟩
    refine k q _ (made_same hq hdq) hq ⟨dq, ?_⟩
    rw [upd_same, q_neg]
    rfl
/-- -1, 0, 1 -/
def cmpQ (x y : Rat) : Int := (if y < x then 1 else 0) - (if x < y then 1 else 0)
def spCmp (K : PySem.W.Frag) : Sp := fun vs H Q E => ∃ a v x, vs = [.ref a, v] ∧ IsQ K H a x ∧ Bits 3000 x ∧ AnyV K H v ∧
  ((∃ y, Qv K H v y ∧ Bits 3000 y ∧ ∀ H', Same H H' → Q (.int (cmpQ x y)) H') ∨ (wholeV v = false ∧ ¬ isA K H v ∧ Rf K "InvalidAmount" "value" v H E))
theorem sc_Amount_compare : FnScope ["self", "other", "by", "left", "right"] ["self", "other"] (defScope s_Amount_compare) := ⟨rfl, rfl, rfl, by decide +kernel, rfl, by decide +kernel, by decide +kernel⟩
theorem ok_Amount_compare (T : Tx K mg base) : Ok P w K mg base 6 (d_Amount_compare.loc K) ["self", "other"] (spCmp K) := by
  refine mk_ok (k := 5) T.f_Amount_compare sc_Amount_compare (fun _ _ _ _ _ _ us hl => match us, hl with | [_, _], _ => rfl) (fun vs H Q E h => ?_) (fun cdv A outer s H vs Q E hr h => ?_)
  · obtain ⟨a, v, x, rfl, _⟩ := h
    rfl
  · obtain ⟨a, v, x, rfl, ha, bx, hv, hc⟩ := h
    refine ⟨_, (pss_cons (ps_set (i := 2) sc_Amount_compare.nd rfl (Or.inl rfl) (ok_call (ok_amount_from T) (hr.mono (by decide)) rfl T.g_amount_from (passE rfl rfl rfl rfl) (pa_cons (pv 1) pa_nil)))
      (pss_cons (ps_par (by rfl) sc_Amount_compare.nd (i := 3) (j := 4) rfl rfl (by decide) rfl rfl (pa_cons (pe_op op_mulW (pe_fld (pv 0) rfl) (pe_fld (pv 2) rfl)) (pa_cons (pe_op op_mulW (pe_fld (pv 2) rfl) (pe_fld (pv 0) rfl)) pa_nil)) (by rfl))
      (pss_one (ps_ret (pe_op op_sub (pe_callTy call_int1 (by rfl) T.b_int (by decide +kernel) (pa_cons (pe_cmpR op_gt (pv 3) (pv 4) (nomark _)) pa_nil)) (pe_callTy call_int1 (by rfl) T.b_int (by decide +kernel) (pa_cons (pe_cmpR op_lt (pv 3) (pv 4) (nomark _)) pa_nil))))))), ?_⟩
    rcases hc with ⟨y, hy, by_, k⟩ | ⟨hw, hno, k⟩
    · refine ⟨_, rfl, v, rfl, hv, .inl ⟨y, hy, fun p H1 s1 hq => ?_⟩⟩
      obtain ⟨da, ha1⟩ := ha.up s1
      obtain ⟨dp, hp⟩ := hq
      refine ⟨_, rfl, a, _, da, _, _, rfl, ha1, T.cls_Amount, T.no_Amount_own_top, rfl, _, rfl, p, _, dp, _, _, rfl, hp, T.cls_Amount, T.no_Amount_own_bottom, rfl, _, _, rfl, rfl, mul_ok bx.1 (den_bits by_), ?_⟩
      refine ⟨_, rfl, p, _, dp, _, _, rfl, hp, T.cls_Amount, T.no_Amount_own_top, rfl, _, rfl, a, _, da, _, _, rfl, ha1, T.cls_Amount, T.no_Amount_own_bottom, rfl, _, _, rfl, rfl, mul_ok by_.1 (den_bits bx), _, _, rfl, ?_⟩
      have k2 := k H1 s1
      have e : cmpQ x y = (if decide (y.num * x.den < x.num * y.den) = true then 1 else 0) - (if decide (x.num * y.den < y.num * x.den) = true then 1 else 0) := by
        unfold cmpQ
        simp only [decide_eq_true_eq, Rat.lt_iff]
      rw [e] at k2
      exact ⟨_, rfl, _, rfl, _, _, rfl, rfl, .inr ⟨_, rfl, _, rfl, _, rfl, _, _, rfl, rfl, .inr ⟨_, rfl, _, _, rfl, rfl, k2⟩⟩⟩
    · exact ⟨_, rfl, v, rfl, hv, .inr ⟨hw, hno, k⟩⟩
def spEqA (K : PySem.W.Frag) : Sp := fun vs H Q _ => ∃ a b x y, vs = [.ref a, .ref b] ∧ IsQ K H a x ∧ IsQ K H b y ∧ Q (.bl (decide (x = y))) H
theorem sc_Amount_eq_ : FnScope ["self", "other"] ["self", "other"] (defScope s_Amount_eq_) := ⟨rfl, rfl, rfl, by decide +kernel, rfl, by decide +kernel, by decide +kernel⟩
theorem ok_Amount_eq_ (T : Tx K mg base) : Ok P w K mg base 2 (d_Amount_eq_.loc K) ["self", "other"] (spEqA K) := by
  refine mk_ok (k := 1) T.f_Amount_eq_ sc_Amount_eq_ (fun _ _ _ _ _ _ us hl => match us, hl with | [_, _], _ => rfl) (fun vs H Q E h => ?_) (fun cdv A outer s H vs Q E hr h => ?_)
  · obtain ⟨a, b, x, y, rfl, _⟩ := h
    rfl
  · obtain ⟨a, b, x, y, rfl, ha, hb, k⟩ := h
    refine ⟨_, (pss_cons (ps_if (pt_not (pt_val (pe_callB call_isi (by rfl) T.b_isinstance (by decide +kernel) (pa_cons (pv 1) (pa_cons (pe_gr T.g_Amount) pa_nil))))) (pss_one (ps_ret pe_never)) pss_nil)
      (pss_one (ps_ret (pe_and (pe_cmpR op_eq (pe_fld (pv 0) rfl) (pe_fld (pv 1) rfl) (nomark _)) (pe_one (pe_cmpR op_eq (pe_fld (pv 0) rfl) (pe_fld (pv 1) rfl) (nomark _))))))), ?_⟩
    obtain ⟨da, ha1⟩ := id ha
    obtain ⟨dp, hp⟩ := id hb
    refine ⟨_, rfl, _, _, _, _, _, rfl, .own _, T.ins_Amount hp, T.k_Amount_Amount, _, rfl, iteF ?_⟩
    refine ⟨_, rfl, a, _, da, _, _, rfl, ha1, T.cls_Amount, T.no_Amount_own_top, rfl, _, rfl, b, _, dp, _, _, rfl, hp, T.cls_Amount, T.no_Amount_own_top, rfl, rfl, _, rfl, ?_⟩
    by_cases e : x.num = y.num
    · rw [decide_eq_true (congrArg V.int e)]
      refine iteT ⟨_, rfl, a, _, da, _, _, rfl, ha1, T.cls_Amount, T.no_Amount_own_bottom, rfl, _, rfl, b, _, dp, _, _, rfl, hp, T.cls_Amount, T.no_Amount_own_bottom, rfl, rfl, ?_⟩
      by_cases e2 : x.den = y.den
      · rw [decide_eq_true (show V.int (x.den : Int) = V.int (y.den : Int) by rw [e2])]
        rw [decide_eq_true (Rat.ext e e2)] at k
        exact k
      · rw [decide_eq_false (show ¬ V.int (x.den : Int) = V.int (y.den : Int) from fun z => e2 (by have := V.int.inj z; omega))]
        rw [decide_eq_false (fun z => e2 (by rw [z]))] at k
        exact k
    · rw [decide_eq_false (fun z => e (V.int.inj z))]
      rw [decide_eq_false (fun z => e (by rw [z]))] at k
      exact iteF k
end
end K09

set_option maxHeartbeats 4000000
namespace K09
open PySem PySem.Spec PyProof.Rows L2 AT
section
variable {P : Program} {w : World} {K : PySem.W.Frag} {mg : Str → Option Value} {base : Heap}
/-- a list or a tuple of xs -/
def Sq (H : Hp) (v : V) (xs : List V) : Prop := ∃ a, v = .ref a ∧ (H a = some (.lst xs) ∨ H a = some (.tup xs))
theorem Sq.up {H H' : Hp} {v : V} {xs : List V} (h : Sq H v xs) (s : Same H H') : Sq H' v xs := by
  obtain ⟨a, e, h | h⟩ := h
  · exact ⟨a, e, .inl (s _ _ h)⟩
  · exact ⟨a, e, .inr (s _ _ h)⟩
theorem Sq.inj {H : Hp} {v : V} {xs ys : List V} (h : Sq H v xs) (g : Sq H v ys) : xs = ys := by
  obtain ⟨a, rfl, h⟩ := h
  obtain ⟨b, e, g⟩ := g
  cases e
  rcases h with h | h <;> rcases g with g | g <;> (rw [h] at g; cases g <;> rfl)
theorem isi_seq (T : Tx K mg base) {H : Hp} {v : V} (h : AnyV K H v) : ∃ t b, TyX K H v t ∧ PySem.W.kitAny K t [.type "list", .type "tuple"] = some b ∧ ((b = true ∧ ∃ xs, Sq H v xs) ∨ (b = false ∧ ¬ ∃ xs, Sq H v xs)) := by
  have no : ∀ {o : HO} {a : Addr}, H a = some o → (∀ xs, o ≠ .lst xs ∧ o ≠ .tup xs) → ¬ ∃ xs, Sq H (.ref a) xs := by
    rintro o a e hn ⟨xs, b, q, z⟩
    cases q
    rcases z with z | z
    · rw [e] at z; cases z; exact (hn xs).1 rfl
    · rw [e] at z; cases z; exact (hn xs).2 rfl
  have k2 : ∀ {t : Value} {b c : Bool}, PySem.W.kitOne K t (.type "list") = some b → PySem.W.kitOne K t (.type "tuple") = some c → PySem.W.kitAny K t [.type "list", .type "tuple"] = some (b || c) := by
    intro t b c e1 e2
    simp only [PySem.W.kitAny, e1, e2]
    cases b <;> cases c <;> rfl
  cases h with
  | non => exact ⟨_, _, .base .non, k2 (kit_ty (r := false) (by decide +kernel)) (kit_ty (r := false) (by decide +kernel)), .inr ⟨rfl, fun ⟨_, _, q, _⟩ => nomatch q⟩⟩
  | bl b => exact ⟨_, _, .base (.bl b), k2 (kit_ty (r := false) (by decide +kernel)) (kit_ty (r := false) (by decide +kernel)), .inr ⟨rfl, fun ⟨_, _, q, _⟩ => nomatch q⟩⟩
  | int i => exact ⟨_, _, .base (.int i), k2 (kit_ty (r := false) (by decide +kernel)) (kit_ty (r := false) (by decide +kernel)), .inr ⟨rfl, fun ⟨_, _, q, _⟩ => nomatch q⟩⟩
  | str x => exact ⟨_, _, .base (.str x), k2 (kit_ty (r := false) (by decide +kernel)) (kit_ty (r := false) (by decide +kernel)), .inr ⟨rfl, fun ⟨_, _, q, _⟩ => nomatch q⟩⟩
  | lst e => exact ⟨_, _, .base (.lst e), k2 (kit_ty (r := true) (by decide +kernel)) (kit_ty (r := false) (by decide +kernel)), .inl ⟨rfl, _, _, rfl, .inl e⟩⟩
  | tup e => exact ⟨_, _, .base (.tup e), k2 (kit_ty (r := false) (by decide +kernel)) (kit_ty (r := true) (by decide +kernel)), .inl ⟨rfl, _, _, rfl, .inr e⟩⟩
  | dct e => exact ⟨_, _, .base (.dK e), k2 (kit_ty (r := false) (by decide +kernel)) (kit_ty (r := false) (by decide +kernel)), .inr ⟨rfl, no e fun _ => ⟨(fun z => nomatch z), (fun z => nomatch z)⟩⟩⟩
  | oth o e => exact ⟨_, _, o.ty e, k2 o.lst o.tup, .inr ⟨rfl, no e fun _ => ⟨(fun z => nomatch z), (fun z => nomatch z)⟩⟩⟩
  | amt e =>
    obtain ⟨dx, e⟩ := e
    exact ⟨_, _, T.ins_Amount e, k2 T.k_Amount_list T.k_Amount_tuple, .inr ⟨rfl, no e fun _ => ⟨(fun z => nomatch z), (fun z => nomatch z)⟩⟩⟩
theorem TyX.new {H : Hp} {v : V} {t : Value} {p : Addr} {o : HO} (hv : AnyV K H v) (hp : H p = none) (T : Tx K mg base) : AnyV K (upd H p o) v := hv.up (AT.Same.up hp)
def spIsList (K : PySem.W.Frag) : Sp := fun vs H Q _ => ∃ v, vs = [v] ∧ AnyV K H v ∧ ((∃ xs, Sq H v xs) → ∀ H', Same H H' → Q (.bl true) H') ∧ ((¬ ∃ xs, Sq H v xs) → ∀ H', Same H H' → Q (.bl false) H')
theorem sc_is_list : FnScope ["value"] ["value"] (defScope s_is_list) := ⟨rfl, rfl, rfl, by decide +kernel, rfl, by decide +kernel, by decide +kernel⟩
theorem ok_is_list (T : Tx K mg base) : Ok P w K mg base 1 (d_is_list.loc K) ["value"] (spIsList K) := by
  refine mk_ok (k := 0) T.f_is_list sc_is_list (fun _ _ _ _ _ _ us hl => match us, hl with | [_], _ => rfl) (fun vs H Q E h => ?_) (fun cdv A outer s H vs Q E hr h => ?_)
  · obtain ⟨v, rfl, _⟩ := h
    rfl
  · obtain ⟨v, rfl, hv, k1, k2⟩ := h
    refine ⟨_, (pss_one (ps_ret (pe_callB call_isiT (by rfl) T.b_isinstance (by decide +kernel) (pa_cons (pv 0) (pa_cons (pe_tup (pa_cons (pe_bltn (v := .ty "list") rfl T.b_list (by decide +kernel) rfl) (pa_cons (pe_bltn (v := .ty "tuple") rfl T.b_tuple (by decide +kernel) rfl) pa_nil))) pa_nil))))), ?_⟩
    refine ⟨_, rfl, (by show 2 ≤ sizeLine; decide), fun p hp => ?_⟩
    have s1 : Same H (upd H p (.tup [.ty "list", .ty "tuple"])) := AT.Same.up hp
    obtain ⟨t, b, ty, kit, hb⟩ := isi_seq T (hv.up s1)
    refine ⟨_, p, _, _, _, _, rfl, upd_same, .cons (.ty _) (.cons (.ty _) .nil), ty, kit, ?_⟩
    rcases hb with ⟨rfl, xs, hs⟩ | ⟨rfl, hn⟩
    · by_cases z : ∃ xs, Sq H v xs
      · exact k1 z _ s1
      · exfalso
        obtain ⟨a, rfl, hs⟩ := hs
        refine z ⟨xs, a, rfl, ?_⟩
        have ne : a ≠ p := by
          rintro rfl
          cases hv with
          | lst e => rw [e] at hp; cases hp
          | tup e => rw [e] at hp; cases hp
          | dct e => rw [e] at hp; cases hp
          | amt e => obtain ⟨_, e⟩ := e; rw [e] at hp; cases hp
          | oth o e => rw [e] at hp; cases hp
        rw [upd_ne ne] at hs
        exact hs
    · exact k2 (fun ⟨xs, z⟩ => hn ⟨xs, z.up s1⟩) _ s1
def spIsRow (K : PySem.W.Frag) : Sp := fun vs H Q _ => ∃ v, ∃ m : Nat, vs = [v, .int m] ∧ AnyV K H v ∧ (∀ xs, Sq H v xs → ∀ H', Same H H' → Q (.bl (decide (xs.length = m))) H') ∧ ((¬ ∃ xs, Sq H v xs) → ∀ H', Same H H' → Q (.bl false) H')
theorem sc_is_row : FnScope ["value", "many"] ["value", "many"] (defScope s_is_row) := ⟨rfl, rfl, rfl, by decide +kernel, rfl, by decide +kernel, by decide +kernel⟩
theorem ok_is_row (T : Tx K mg base) : Ok P w K mg base 2 (d_is_row.loc K) ["value", "many"] (spIsRow K) := by
  refine mk_ok (k := 1) T.f_is_row sc_is_row (fun _ _ _ _ _ _ us hl => match us, hl with | [_, _], _ => rfl) (fun vs H Q E h => ?_) (fun cdv A outer s H vs Q E hr h => ?_)
  · obtain ⟨v, m, rfl, _⟩ := h
    rfl
  · obtain ⟨v, m, rfl, hv, k1, k2⟩ := h
    refine ⟨_, (pss_one (ps_ret (pe_and (ok_call (ok_is_list T) (hr.mono (by decide)) rfl T.g_is_list passL (pa_cons (pv 0) pa_nil)) (pe_one (pe_cmpR op_eq (pe_callB call_len_seq (by rfl) T.b_len (by decide +kernel) (pa_cons (pv 0) pa_nil)) (pv 1) (nomark _)))))), ?_⟩
    refine ⟨_, rfl, v, rfl, hv, fun ⟨xs, hx⟩ H1 s1 => ?_, fun hn H1 s1 => ?_⟩
    · refine ⟨_, rfl, iteT ?_⟩
      obtain ⟨a, rfl, ha⟩ := hx.up s1
      have e : ∀ n : Nat, decide (V.int (n : Int) = V.int (m : Int)) = decide (n = m) := fun n => by
        by_cases z : n = m
        · rw [z]; simp
        · rw [decide_eq_false z, decide_eq_false (fun q => z (by have := V.int.inj q; omega))]
      refine ⟨_, rfl, a, _, rfl, ha.imp SqL.of SqT.of, _, rfl, rfl, ?_⟩
      rw [e]
      exact k1 xs hx _ s1
    · exact ⟨_, rfl, iteF (k2 hn _ s1)⟩
end
end K09

set_option maxHeartbeats 4000000
namespace K09
open PySem PySem.Spec PyProof.Rows L2 AT
section
variable {P : Program} {w : World} {K : PySem.W.Frag} {mg : Str → Option Value} {base : Heap}
/-- a point of a map, as the program keeps it -/
def Pt (K : PySem.W.Frag) (H : Hp) (v : V) (p : Rat × Rat) : Prop := ∃ t x y : Addr, v = .ref t ∧ H t = some (.tup [.ref x, .ref y]) ∧ IsQ K H x p.1 ∧ IsQ K H y p.2
theorem Pt.up {H H' : Hp} {v : V} {p : Rat × Rat} (h : Pt K H v p) (s : Same H H') : Pt K H' v p := by
  obtain ⟨t, x, y, e, h1, h2, h3⟩ := h
  exact ⟨t, x, y, e, s _ _ h1, h2.up s, h3.up s⟩
inductive Pts (K : PySem.W.Frag) (H : Hp) : List V → List (Rat × Rat) → Prop
  | nil : Pts K H [] []
  | cons {v : V} {p : Rat × Rat} {vs : List V} {ps : List (Rat × Rat)} : Pt K H v p → Pts K H vs ps → Pts K H (v :: vs) (p :: ps)
theorem Pts.up {H H' : Hp} {vs : List V} {ps : List (Rat × Rat)} (h : Pts K H vs ps) (s : Same H H') : Pts K H' vs ps := by
  induction h with
  | nil => exact .nil
  | cons a b ih => exact .cons (a.up s) ih
theorem Pts.app {H : Hp} {vs : List V} {ps : List (Rat × Rat)} {v : V} {p : Rat × Rat} (h : Pts K H vs ps) (g : Pt K H v p) : Pts K H (vs ++ [v]) (ps ++ [p]) := by
  induction h with
  | nil => exact .cons g .nil
  | cons a b ih => exact .cons a ih
theorem Pts.length {H : Hp} {vs : List V} {ps : List (Rat × Rat)} (h : Pts K H vs ps) : vs.length = ps.length := by
  induction h with
  | nil => rfl
  | cons a b ih => simp [ih]
theorem Pts.get {H : Hp} {vs : List V} {ps : List (Rat × Rat)} (h : Pts K H vs ps) : ∀ {i : Nat} {p : Rat × Rat}, ps[i]? = some p → ∃ v, vs[i]? = some v ∧ Pt K H v p := by
  induction h with
  | nil => intro i p e; simp at e
  | cons a b ih =>
    intro i p e
    cases i with
    | zero => simp at e; subst e; exact ⟨_, rfl, a⟩
    | succ i => simpa using ih (by simpa using e)
/-- an item that is a point: a row of two amounts -/
def Item (K : PySem.W.Frag) (H : Hp) (v : V) (p : Rat × Rat) : Prop := ∃ x y, Sq H v [x, y] ∧ Qv K H x p.1 ∧ Qv K H y p.2
/-- an item that is none -/
def NoItem (K : PySem.W.Frag) (H : Hp) (v : V) : Prop := AnyV K H v ∧ ((¬ ∃ xs, Sq H v xs) ∨ (∃ xs, Sq H v xs ∧ xs.length ≠ 2) ∨ ∃ x y, Sq H v [x, y] ∧ AnyV K H x ∧ AnyV K H y ∧ (¬ isA K H x ∨ (isA K H x ∧ ¬ isA K H y)))
def Below (p q : Rat × Rat) : Prop := p.1 < q.1 ∧ p.2 < q.2
def BitsP (k : Nat) (p : Rat × Rat) : Prop := Bits k p.1 ∧ Bits k p.2
def Rising : List (Rat × Rat) → Prop
  | [] => True
  | [_] => True
  | p :: q :: r => Below p q ∧ Rising (q :: r)
/-- how the walk over the items ends: ps the points ahead of it -/
def ChkEnd (K : PySem.W.Frag) (H : Hp) (xs : List V) (ps : List (Rat × Rat)) (Q : VK) (E : XK) : Prop :=
  (ps.length = xs.length ∧ ∀ (D : Addr) (vs : List V) (H' : Hp), Same H H' → H D = none → H' D = some (.lst vs) → Pts K H' vs ps → Q (.ref D) H') ∨
  (∃ v, xs[ps.length]? = some v ∧ NoItem K H v ∧ Rf K "InvalidPoint" "value" v H E) ∨
  (∃ v p q, xs[ps.length]? = some v ∧ Item K H v q ∧ BitsP 3000 q ∧ ps.getLast? = some p ∧ ¬ Below p q ∧ Rf K "Falling" "index" (.int (ps.length : Nat)) H E)
theorem Pt.set {H : Hp} {v : V} {p : Rat × Rat} {D : Addr} {ys zs : List V} (h : Pt K H v p) (hD : H D = some (.lst ys)) : Pt K (upd H D (.lst zs)) v p := by
  obtain ⟨t, x, y, e, h1, ⟨d2, h2⟩, ⟨d3, h3⟩⟩ := h
  have n1 : t ≠ D := by rintro rfl; rw [h1] at hD; cases hD
  have n2 : x ≠ D := by rintro rfl; rw [h2] at hD; cases hD
  have n3 : y ≠ D := by rintro rfl; rw [h3] at hD; cases hD
  exact ⟨t, x, y, e, by rw [upd_ne n1]; exact h1, ⟨d2, by rw [upd_ne n2]; exact h2⟩, ⟨d3, by rw [upd_ne n3]; exact h3⟩⟩
theorem Pts.set {H : Hp} {vs : List V} {ps : List (Rat × Rat)} {D : Addr} {ys zs : List V} (h : Pts K H vs ps) (hD : H D = some (.lst ys)) : Pts K (upd H D (.lst zs)) vs ps := by
  induction h with
  | nil => exact .nil
  | cons a b ih => exact .cons (a.set hD) ih
theorem Item.up {H H' : Hp} {v : V} {p : Rat × Rat} (h : Item K H v p) (s : Same H H') : Item K H' v p := by
  obtain ⟨x, y, h1, h2, h3⟩ := h
  exact ⟨x, y, h1.up s, h2.up s, h3.up s⟩
theorem Sq.any {H : Hp} {v : V} {xs : List V} (h : Sq H v xs) : AnyV K H v := by
  obtain ⟨a, rfl, h | h⟩ := h
  · exact .lst h
  · exact .tup h
theorem Rising.step : ∀ {ps : List (Rat × Rat)} {i : Nat} {p q : Rat × Rat}, Rising ps → ps[i]? = some p → ps[i + 1]? = some q → Below p q
  | p :: q :: r, 0, _, _, h, e1, e2 => by
    simp at e1 e2
    subst e1 e2
    exact h.1
  | p :: q :: r, i + 1, _, _, h, e1, e2 => Rising.step h.2 (by simpa using e1) (by simpa using e2)
  | [p], 0, _, _, _, _, e2 => by simp at e2
  | [p], i + 1, _, _, _, e1, _ => by simp at e1
  | [], i, _, _, _, e1, _ => by simp at e1
theorem cmp_neg (x y : Rat) : decide (cmpQ x y < 0) = decide (x < y) := by
  unfold cmpQ
  by_cases h : x < y
  · have h2 : ¬ y < x := by grind
    simp [h, h2]
  · simp [h]
    split <;> decide
theorem at_last {α : Type} {l : List α} {x : α} (h : l.getLast? = some x) : atI l (-1) = some x := by
  have hn : l ≠ [] := by rintro rfl; simp at h
  have hl : 0 < l.length := List.length_pos_iff.mpr hn
  unfold atI ixN
  rw [if_neg (by decide)]
  rw [List.getLast?_eq_getElem?] at h
  have e : (-1 + (l.length : Int)).toNat = l.length - 1 := by omega
  split
  · simp only [Option.bind_some]
    rw [e]
    exact h
  · omega
theorem Pts.last {H : Hp} {vs : List V} {ps : List (Rat × Rat)} (h : Pts K H vs ps) (hn : vs ≠ []) : ∃ v p, vs.getLast? = some v ∧ ps.getLast? = some p ∧ Pt K H v p := by
  have e := h.length
  have hl : 0 < vs.length := List.length_pos_iff.mpr hn
  obtain ⟨v, hv, pt⟩ := h.get (i := ps.length - 1) (List.getElem?_eq_getElem (by omega))
  refine ⟨v, _, ?_, ?_, pt⟩
  · rw [List.getLast?_eq_getElem?, e]
    exact hv
  · rw [List.getLast?_eq_getElem?]
    exact List.getElem?_eq_getElem (by omega)
theorem tyV_lst {H : Hp} {D : Addr} {vs : List V} (h : H D = some (.lst vs)) : tyV K "list" (.ref D) H := .inl ⟨rfl, vs, SqL.of h⟩
theorem noSq_up {H H' : Hp} {v : V} (hv : AnyV K H v) (h : ¬ ∃ xs, Sq H v xs) (s : Same H H') : ¬ ∃ xs, Sq H' v xs := by
  rintro ⟨xs, a, e, z⟩
  cases hv with
  | lst e1 => exact h ⟨_, _, rfl, .inl e1⟩
  | tup e1 => exact h ⟨_, _, rfl, .inr e1⟩
  | dct e1 => cases e; rw [s _ _ e1] at z; rcases z with z | z <;> cases z
  | amt e1 => obtain ⟨_, e1⟩ := e1; cases e; rw [s _ _ e1] at z; rcases z with z | z <;> cases z
  | oth o e1 => cases e; rw [s _ _ e1] at z; rcases z with z | z <;> cases z
  | _ => cases e
theorem noA_up {H H' : Hp} {v : V} (hv : AnyV K H v) (h : ¬ isA K H v) (s : Same H H') : ¬ isA K H' v := by
  rintro ⟨q, z⟩
  cases hv with
  | lst e1 => cases z with | obj z => obtain ⟨_, z⟩ := z; rw [s _ _ e1] at z; cases z
  | tup e1 => cases z with | obj z => obtain ⟨_, z⟩ := z; rw [s _ _ e1] at z; cases z
  | dct e1 => cases z with | obj z => obtain ⟨_, z⟩ := z; rw [s _ _ e1] at z; cases z
  | amt e1 => exact h ⟨_, .obj e1⟩
  | oth o e1 => cases z with | obj z => obtain ⟨_, z⟩ := z; rw [s _ _ e1] at z; cases z; exact o.ne rfl
  | int i => exact h ⟨_, .int i⟩
  | _ => cases z
theorem isA_up {H H' : Hp} {v : V} (h : isA K H v) (s : Same H H') : isA K H' v := h.imp fun _ z => z.up s
def spChk (K : PySem.W.Frag) : Sp := fun vs H Q E => ∃ v, vs = [v] ∧ AnyV K H v ∧ (((¬ ∃ xs, Sq H v xs) ∧ Rf K "InvalidPart" "value" v H E) ∨
  ∃ xs ps, Sq H v xs ∧ xs.length < 1000 ∧ (∀ (i : Nat) (p : Rat × Rat), ps[i]? = some p → BitsP 3000 p ∧ ∃ x, xs[i]? = some x ∧ Item K H x p) ∧ Rising ps ∧ ChkEnd K H xs ps Q E)
theorem sc_checked_points : FnScope ["points", "found", "index", "item", "beat", "second"] ["points"] (defScope s_checked_points) := ⟨rfl, rfl, rfl, by decide +kernel, rfl, by decide +kernel, by decide +kernel⟩
theorem ok_checked_points (T : Tx K mg base) : Ok P w K mg base 7 (d_checked_points.loc K) ["points"] (spChk K) := by
  refine mk_ok (k := 6) T.f_checked_points sc_checked_points (fun _ _ _ _ _ _ us hl => match us, hl with | [_], _ => rfl) (fun vs H Q E h => ?_) (fun cdv A outer s H vs Q E hr h => ?_)
  · obtain ⟨v, rfl, _⟩ := h
    rfl
  · obtain ⟨v, rfl, hv, hc⟩ := h
    refine ⟨_, (pss_cons (ps_if (pt_not (pt_val (ok_call (ok_is_list T) (hr.mono (by decide)) rfl T.g_is_list passL (pa_cons (pv 0) pa_nil)))) (pss_one (ps_rs rfl (mx_InvalidPart T (hr.mono (by decide))) (takes_of rfl rfl rfl rfl) rfl (pv 0))) pss_nil)
      (pss_cons (ps_set (i := 1) sc_checked_points.nd rfl (Or.inl rfl) (pe_lst pa_nil))
      (pss_cons (ps_for (passes_of rfl) rfl (pi_enumA (by rfl) T.b_enumerate (pa_cons (pv 0) pa_nil)) (pg_tup rfl (pgs_cons (pg_name (i := 2) sc_checked_points.nd rfl (Or.inl rfl)) (pgs_cons (pg_name (i := 3) sc_checked_points.nd rfl (Or.inl rfl)) pgs_nil))) (pss_cons (ps_if (PW.pt (pw_or (pt_not (pt_val (ok_call (ok_is_row T) (hr.mono (by decide)) rfl T.g_is_row passL (pa_cons (pv 3) (pa_cons pe_int pa_nil))))) (pw_or (pt_not (pt_val (ok_call (ok_is_amount T) (hr.mono (by decide)) rfl T.g_is_amount passL (pa_cons (pe_ix ix_sq (pv 3) pe_int (fun _ _ => rfl)) pa_nil)))) (pw_or1 (pt_not (pt_val (ok_call (ok_is_amount T) (hr.mono (by decide)) rfl T.g_is_amount passL (pa_cons (pe_ix ix_sq (pv 3) pe_int (fun _ _ => rfl)) pa_nil)))))))) (pss_one (ps_rs rfl (mx_InvalidPoint T (hr.mono (by decide))) (takes_of rfl rfl rfl rfl) rfl (pv 3))) pss_nil)
      (pss_cons (ps_par (by rfl) sc_checked_points.nd (i := 4) (j := 5) rfl rfl (by decide) rfl rfl (pa_cons (ok_call (ok_amount_from T) (hr.mono (by decide)) rfl T.g_amount_from (passE rfl rfl rfl rfl) (pa_cons (pe_ix ix_sq (pv 3) pe_int (fun _ _ => rfl)) pa_nil)) (pa_cons (ok_call (ok_amount_from T) (hr.mono (by decide)) rfl T.g_amount_from (passE rfl rfl rfl rfl) (pa_cons (pe_ix ix_sq (pv 3) pe_int (fun _ _ => rfl)) pa_nil)) pa_nil)) (by rfl))
      (Evl.pss_cut (ps_if (PW.pt (pw_and (pt_truth (pv 1) (by intro _; rfl)) (pw_and1 (pt_not (PW.pt (pw_and (pt_cmpR op_lt (ok_meth T.cls_Amount T.m_Amount_compare (ok_Amount_compare T) (hr.mono (by decide)) (passE rfl rfl rfl rfl) (pe_ix ix_tup (pe_ix ix_list (pv 1) (pe_un un_neg pe_int) (fun _ _ => rfl)) pe_int (fun _ _ => rfl)) (pa_cons (pv 4) pa_nil)) pe_int (nomark _)) (pw_and1 (pt_cmpR op_lt (ok_meth T.cls_Amount T.m_Amount_compare (ok_Amount_compare T) (hr.mono (by decide)) (passE rfl rfl rfl rfl) (pe_ix ix_tup (pe_ix ix_list (pv 1) (pe_un un_neg pe_int) (fun _ _ => rfl)) pe_int (fun _ _ => rfl)) (pa_cons (pv 5) pa_nil)) pe_int (nomark _))))))))) (pss_one (ps_rs rfl (mx_Falling T (hr.mono (by decide))) (takes_of rfl rfl rfl rfl) rfl (pv 2))) pss_nil)
      (pss_one (ps_expr (pe_bm PySem.F.plainAttrs_list PySem.F.slot_list_append PySem.F.type_list_append mt_append (pv 1) (pa_cons (pe_tup (pa_cons (pv 4) (pa_cons (pv 5) pa_nil))) pa_nil))))))))
      (pss_one (ps_ret (pv 1)))))), ?_⟩
    rcases hc with ⟨hn, k⟩ | ⟨xs, ps, hx, hlen, hps, hris, hend⟩
    · refine ⟨_, rfl, v, rfl, hv, fun z => absurd z hn, fun _ H1 s1 => ⟨_, rfl, iteT ?_⟩⟩
      exact ⟨_, rfl, mk_at T.xc_InvalidPart.oex T.xc_InvalidPart.no (rf_of (k.up s1))⟩
    · refine ⟨_, rfl, v, rfl, hv, fun _ H1 s1 => ⟨_, rfl, iteF ?_⟩, fun z => absurd ⟨xs, hx⟩ z⟩
      refine ⟨Nat.zero_le _, fun D hD => ?_⟩
      obtain ⟨a, rfl, ha⟩ := hx.up s1
      have haD : ∀ H' : Hp, Same H1 H' → H' a = some (.lst xs) ∨ H' a = some (.tup xs) := fun H' s => ha.imp (s _ _) (s _ _)
      refine ⟨_, rfl, a, xs, rfl, (haD _ (AT.Same.up hD)).imp SqL.of SqT.of, fun J hJ => ?_⟩
      obtain ⟨G, wk, hG0⟩ := en_walk hJ
      have hG : ∀ H', Same H1 H' → G H' := fun H' s => hG0 H' (by
        rcases ha with z | z <;> rw [s _ _ z, (AT.Same.up hD) _ _ z])
      have hsz : sizeLine = 16777216 := sizeLine_eq
      refine for_it wk (fun i σ' H' => ∃ (o2 o3 o4 o5 : Option V) (vs : List V), σ' = ([some (.ref a), some (.ref D), o2, o3, o4, o5] : L2.St) ∧ Same H1 H' ∧ H' D = some (.lst vs) ∧ i ≤ ps.length ∧ Pts K H' vs (ps.take i)) ⟨_, _, _, _, [], rfl, AT.Same.up hD, upd_same, Nat.zero_le _, .nil⟩ ?_ ?_ ?_
      · rintro i σ' H' hi ⟨o2, o3, o4, o5, vs, rfl, sm, hl, hip, hp⟩
        exact hG _ sm
      · rintro i x σ' H' H2 hi ⟨o2, o3, o4, o5, vs, rfl, sm, hl, hip, hp⟩ ⟨Tp, x0, y0, rfl, hTp, rfl, e0, hy0⟩
        cases e0
        have s2 : Same H' (upd H' Tp (.tup [.int (i : Nat), y0])) := AT.Same.up hTp
        have hl2 : upd H' Tp (.tup [.int (i : Nat), y0]) D = some (.lst vs) := s2 _ _ hl
        have hp2 := hp.up s2
        have sm2 : Same H (upd H' Tp (.tup [.int (i : Nat), y0])) := (s1.trans sm).trans s2
        have sm3 : Same H1 (upd H' Tp (.tup [.int (i : Nat), y0])) := sm.trans s2
        refine ⟨Tp, _, rfl, SqT.of upd_same, rfl, _, _, rfl, _, _, rfl, rfl, ?_⟩
        generalize upd H' Tp (.tup [.int (i : Nat), y0]) = Ha at hl2 hp2 sm2 sm3 ⊢
        clear hp hl s2 hTp sm
        have hy0 : xs[i]? = some y0 := hy0
        have kind : (∃ q, Item K H y0 q ∧ BitsP 3000 q ∧ ((ps[i]? = some q) ∨ (i = ps.length ∧ ∃ p, ps.getLast? = some p ∧ ¬ Below p q ∧ Rf K "Falling" "index" (.int (i : Nat)) H E))) ∨ (NoItem K H y0 ∧ Rf K "InvalidPoint" "value" y0 H E) := by
          by_cases hi2 : i < ps.length
          · have hpi : ps[i]? = some ps[i] := List.getElem?_eq_getElem hi2
            obtain ⟨bq, y1, hy1, it⟩ := hps i _ hpi
            rw [hy0] at hy1
            cases hy1
            exact .inl ⟨_, it, bq, .inl hpi⟩
          · have ei : i = ps.length := by omega
            subst ei
            rcases hend with ⟨e, _⟩ | ⟨v, z, n, k⟩ | ⟨v, p, q, z, it, bq, lp, nb, k⟩
            · omega
            · rw [hy0] at z
              cases z
              exact .inr ⟨n, k⟩
            · rw [hy0] at z
              cases z
              exact .inl ⟨q, it, bq, .inr ⟨rfl, p, lp, nb, k⟩⟩
        rcases kind with ⟨q, it, bq, hq⟩ | ⟨⟨av, bad⟩, k⟩
        · obtain ⟨x1, x2, hsq, q1, q2⟩ := it.up sm2
          obtain ⟨b, rfl, hb⟩ := id hsq
          refine ⟨_, rfl, .ref b, 2, rfl, hsq.any, fun ys hy Hb sb => ?_, fun hn => absurd ⟨_, hsq⟩ hn⟩
          rw [← hsq.inj hy]
          have hbB := hb.imp (sb _ _) (sb _ _)
          refine ⟨_, rfl, iteF ⟨_, rfl, b, _, 0, x1, rfl, rfl, hbB.imp SqL.of SqT.of, rfl, x1, rfl, q1.any.up sb, fun _ => ?_, fun hn => absurd ⟨_, q1.up sb⟩ hn⟩⟩
          refine ⟨_, rfl, iteF ⟨_, rfl, b, _, 1, x2, rfl, rfl, hbB.imp SqL.of SqT.of, rfl, x2, rfl, q2.any.up sb, fun _ => ?_, fun hn => absurd ⟨_, q2.up sb⟩ hn⟩⟩
          refine ⟨_, rfl, iteF ?_⟩
          refine ⟨_, rfl, b, _, 0, x1, rfl, rfl, hbB.imp SqL.of SqT.of, rfl, x1, rfl, q1.any.up sb, .inl ⟨_, q1.up sb, fun pa Hc sc hA => ?_⟩⟩
          have hbC := hbB.imp (sc _ _) (sc _ _)
          refine ⟨_, rfl, b, _, 1, x2, rfl, rfl, hbC.imp SqL.of SqT.of, rfl, x2, rfl, (q2.any.up sb).up sc, .inl ⟨_, (q2.up sb).up sc, fun pb Hd sd hB => ?_⟩⟩
          refine ⟨_, _, rfl, ?_⟩
          have hA := hA.up sd
          have sx := (sb.trans sc).trans sd
          have hlD := sx _ _ hl2
          have hpD := hp2.up sx
          have smD := sm2.trans sx
          have smD1 := sm3.trans sx
          refine ⟨fun σ3 H3 => σ3 = ([some (.ref a), some (.ref D), some (.int (i : Nat)), some (.ref b), some (.ref pa), some (.ref pb)] : L2.St) ∧ Same Hd H3 ∧ (ps[i]? = some q), ?_, ?_⟩
          · refine ⟨_, rfl, !vs.isEmpty, .inl ⟨vs, SqL.of hlD, rfl⟩, ?_⟩
            cases hvs : vs.isEmpty with
            | true =>
              have e0 : vs = [] := by simpa using hvs
              refine iteF (iteF ⟨rfl, Same.refl _, ?_⟩)
              rcases hq with z | ⟨e1, p, lp, _⟩
              · exact z
              · exfalso
                have z := hpD.length
                rw [e1, List.take_length, e0] at z
                have z2 : ps = [] := List.length_eq_zero_iff.mp z.symm
                rw [z2] at lp
                simp at lp
            | false =>
              have e0 : vs ≠ [] := by rintro rfl; simp at hvs
              obtain ⟨lv, lp, hlv, hlp, hpt⟩ := hpD.last e0
              obtain ⟨tt, xa, ya, rfl, ht, hxa, hya⟩ := id hpt
              obtain ⟨da, hxa1⟩ := id hxa
              have bl : BitsP 3000 lp := by
                have m1 := List.mem_of_mem_take (List.mem_of_getLast? hlp)
                obtain ⟨j, hj⟩ := List.getElem?_of_mem m1
                exact (hps j lp hj).1
              have out : ¬ Below lp q → Rf K "Falling" "index" (.int (i : Nat)) H E := fun nb => by
                rcases hq with z | ⟨e1, p, hp1, nb1, k⟩
                · exfalso
                  apply nb
                  have li : i < ps.length := (List.getElem?_eq_some_iff.mp z).1
                  have hz := hpD.length
                  rw [List.length_take] at hz
                  have : 0 < vs.length := List.length_pos_iff.mpr e0
                  refine Rising.step (i := i - 1) hris ?_ (by rw [show i - 1 + 1 = i by omega]; exact z)
                  rw [List.getLast?_eq_getElem?, List.length_take, List.getElem?_take] at hlp
                  rw [if_pos (by omega)] at hlp
                  rw [show min i ps.length - 1 = i - 1 by omega] at hlp
                  exact hlp
                · exact k
              have stay : Below lp q → ps[i]? = some q := fun bw => by
                rcases hq with z | ⟨e1, p, hp1, nb1, k⟩
                · exact z
                · exfalso
                  rw [e1, List.take_length, hp1] at hlp
                  cases hlp
                  exact nb1 bw
              refine iteT ⟨_, rfl, _, rfl, D, vs, _, _, rfl, rfl, SqL.of hlD, at_last hlv, tt, _, 0, _, rfl, rfl, SqT.of ht, rfl, xa, da, _, rfl, hxa1, rfl, ?_⟩
              refine ⟨_, rfl, xa, .ref pa, lp.1, rfl, hxa, bl.1, .amt hA, .inl ⟨q.1, .obj hA, bq.1, fun He se => ?_⟩⟩
              refine ⟨_, _, rfl, rfl, _, rfl, ?_⟩
              rw [cmp_neg]
              by_cases b1 : lp.1 < q.1
              · rw [decide_eq_true b1]
                obtain ⟨db, hya1⟩ := hya.up se
                refine iteT ⟨_, rfl, _, rfl, D, vs, _, _, rfl, rfl, SqL.of (se _ _ hlD), at_last hlv, tt, _, 1, _, rfl, rfl, SqT.of (se _ _ ht), rfl, ya, db, _, rfl, hya1, rfl, ?_⟩
                refine ⟨_, rfl, ya, .ref pb, lp.2, rfl, hya.up se, bl.2, .amt (hB.up se), .inl ⟨q.2, .obj (hB.up se), bq.2, fun Hf sf => ?_⟩⟩
                refine ⟨_, _, rfl, rfl, _, rfl, ?_⟩
                rw [cmp_neg]
                by_cases b2 : lp.2 < q.2
                · rw [decide_eq_true b2]
                  exact iteF ⟨rfl, se.trans sf, stay ⟨b1, b2⟩⟩
                · rw [decide_eq_false b2]
                  exact iteT ⟨_, rfl, mk_at T.xc_Falling.oex T.xc_Falling.no (rf_of ((out fun z => b2 z.2).up (smD.trans (se.trans sf))))⟩
              · rw [decide_eq_false b1]
                exact iteF (iteT ⟨_, rfl, mk_at T.xc_Falling.oex T.xc_Falling.no (rf_of ((out fun z => b1 z.1).up (smD.trans se)))⟩)
          · rintro _ H3 ⟨rfl, s3, hqi⟩
            have hl3 := s3 _ _ hlD
            have hp3 := hpD.up s3
            have li : i < ps.length := (List.getElem?_eq_some_iff.mp hqi).1
            refine ⟨_, rfl, tyV_lst hl3, _, rfl, _, rfl, (by show 2 ≤ sizeLine; decide), fun tn htn => ?_⟩
            have s4 : Same H3 (upd H3 tn (.tup [.ref pa, .ref pb])) := AT.Same.up htn
            have hl4 := s4 _ _ hl3
            have lz := hpD.length
            rw [List.length_take] at lz
            refine ⟨D, vs, _, rfl, rfl, hl4, (by omega), ?_⟩
            have pn : Pt K (upd H3 tn (.tup [.ref pa, .ref pb])) (.ref tn) q := ⟨tn, pa, pb, rfl, upd_same, (hA.up s3).up s4, (hB.up s3).up s4⟩
            refine ⟨_, _, _, _, vs ++ [.ref tn], rfl, ?_, upd_same, li, ?_⟩
            · exact AT.Same.new (smD1.trans (s3.trans s4)) hD
            · rw [List.take_add_one, hqi]
              exact ((hp3.up s4).app pn).set hl4
        · have avA := av.up sm2
          have raise : ∀ Hb, Same Ha Hb → ∀ d, Hb d = none → E (.ref (He.ga K "InvalidPoint")) (some d) (upd Hb d (.xd [("value", y0)])) := fun Hb sb => rf_of (k.up (sm2.trans sb))
          refine ⟨_, rfl, y0, 2, rfl, avA, fun ys hy Hb sb => ?_, fun hn Hb sb => ?_⟩
          · rcases bad with hn | ⟨zs, hz, hz2⟩ | ⟨x1, x2, hz, a1, a2, na⟩
            · exact absurd ⟨ys, hy⟩ (noSq_up av hn sm2)
            · rw [← (hz.up sm2).inj hy, decide_eq_false hz2]
              exact ⟨_, rfl, iteT (iteT ⟨_, rfl, mk_at T.xc_InvalidPoint.oex T.xc_InvalidPoint.no (raise Hb sb)⟩)⟩
            · have hzA := hz.up sm2
              rw [← hzA.inj hy, decide_eq_true (show [x1, x2].length = 2 from rfl)]
              obtain ⟨b, rfl, hb⟩ := id hzA
              have hbB := hb.imp (sb _ _) (sb _ _)
              refine ⟨_, rfl, iteF ⟨_, rfl, b, _, 0, x1, rfl, rfl, hbB.imp SqL.of SqT.of, rfl, x1, rfl, a1.up (sm2.trans sb), fun y1 => ?_, fun _ => ?_⟩⟩
              · rcases na with na | ⟨_, na⟩
                · exact absurd y1 (noA_up a1 na (sm2.trans sb))
                · refine ⟨_, rfl, iteF ⟨_, rfl, b, _, 1, x2, rfl, rfl, hbB.imp SqL.of SqT.of, rfl, x2, rfl, a2.up (sm2.trans sb), fun y2 => absurd y2 (noA_up a2 na (sm2.trans sb)), fun _ => ?_⟩⟩
                  exact ⟨_, rfl, iteT ⟨_, rfl, mk_at T.xc_InvalidPoint.oex T.xc_InvalidPoint.no (raise Hb sb)⟩⟩
              · exact ⟨_, rfl, iteT (iteT ⟨_, rfl, mk_at T.xc_InvalidPoint.oex T.xc_InvalidPoint.no (raise Hb sb)⟩)⟩
          · exact ⟨_, rfl, iteT (iteT ⟨_, rfl, mk_at T.xc_InvalidPoint.oex T.xc_InvalidPoint.no (raise Hb sb)⟩)⟩
      · rintro σ' H' ⟨o2, o3, o4, o5, vs, rfl, sm, hl, hip, hp⟩
        have e : ps.length = xs.length := by
          rcases hend with ⟨e, _⟩ | ⟨_, z, _⟩ | ⟨_, _, _, z, _⟩
          · exact e
          · have := (List.getElem?_eq_some_iff.mp z).1; omega
          · have := (List.getElem?_eq_some_iff.mp z).1; omega
        rcases hend with ⟨_, k⟩ | ⟨_, z, _⟩ | ⟨_, _, _, z, _⟩
        · rw [← e, List.take_length] at hp
          exact ⟨_, rfl, k D vs H' (s1.trans sm) (none_of s1 hD) hl hp⟩
        · have := (List.getElem?_eq_some_iff.mp z).1; omega
        · have := (List.getElem?_eq_some_iff.mp z).1; omega
end
end K09

set_option maxHeartbeats 4000000
namespace K09
open PySem PySem.Spec PyProof.Rows L2 AT
section
variable {P : Program} {w : World} {K : PySem.W.Frag} {mg : Str → Option Value} {base : Heap}
def slopeQ (p q : Rat × Rat) : Rat := (q.2 - p.2) / (q.1 - p.1)
def spSlope (K : PySem.W.Frag) : Sp := fun vs H Q _ => ∃ v1 v2 p q, vs = [v1, v2] ∧ Pt K H v1 p ∧ Pt K H v2 q ∧ BitsP 1000 p ∧ BitsP 1000 q ∧ p.1 ≠ q.1 ∧ ∀ x H', Same H H' → H x = none → IsQ K H' x (slopeQ p q) → Q (.ref x) H'
theorem sc_slope : FnScope ["one", "other"] ["one", "other"] (defScope s_slope) := ⟨rfl, rfl, rfl, by decide +kernel, rfl, by decide +kernel, by decide +kernel⟩
theorem ok_slope (T : Tx K mg base) : Ok P w K mg base 8 (d_slope.loc K) ["one", "other"] (spSlope K) := by
  refine mk_ok (k := 7) T.f_slope sc_slope (fun _ _ _ _ _ _ us hl => match us, hl with | [_, _], _ => rfl) (fun vs H Q E h => ?_) (fun cdv A outer s H vs Q E hr h => ?_)
  · obtain ⟨v1, v2, p, q, rfl, _⟩ := h
    rfl
  · obtain ⟨v1, v2, p, q, rfl, h1, h2, b1, b2, hne, k⟩ := h
    refine ⟨_, (pss_one (ps_ret (ok_meth T.cls_Amount T.m_Amount_divided (ok_Amount_divided T) (hr.mono (by decide)) (passE rfl rfl rfl rfl) (pe_op (op_own T.op_Amount_sub (ok_Amount_sub_ T) (hr.mono (by decide)) (passE rfl rfl rfl rfl)) (pe_ix ix_tup (pv 1) pe_int (fun _ _ => rfl)) (pe_ix ix_tup (pv 0) pe_int (fun _ _ => rfl))) (pa_cons (pe_op (op_own T.op_Amount_sub (ok_Amount_sub_ T) (hr.mono (by decide)) (passE rfl rfl rfl rfl)) (pe_ix ix_tup (pv 1) pe_int (fun _ _ => rfl)) (pe_ix ix_tup (pv 0) pe_int (fun _ _ => rfl))) pa_nil)))), ?_⟩
    obtain ⟨t1, x1, y1, rfl, ht1, hx1, hy1⟩ := id h1
    obtain ⟨t2, x2, y2, rfl, ht2, hx2, hy2⟩ := id h2
    obtain ⟨e1, hy2'⟩ := id hy2
    have up : ∀ {q : Rat}, Bits 1000 q → Bits 3000 q := fun h => h.mono (by decide)
    have up2 : ∀ {q : Rat}, Bits 2001 q → Bits 3000 q := fun h => h.mono (by decide)
    refine ⟨_, rfl, t2, _, 1, _, rfl, rfl, SqT.of ht2, rfl, _, rfl, t1, _, 1, _, rfl, rfl, SqT.of ht1, rfl, y2, e1, _, _, rfl, hy2', T.ins_Amount (hy1.choose_spec), .inl rfl, ?_⟩
    refine ⟨y2, .ref y1, q.2, rfl, hy2, up b2.2, .amt hy1, .inl ⟨p.2, .obj hy1, up b1.2, fun u H1 s1 hu hU => ?_⟩⟩
    obtain ⟨du, hU'⟩ := id hU
    obtain ⟨e2, hx2'⟩ := hx2.up s1
    have bU : Bits 2001 (q.2 - p.2) := b2.2.sub b1.2
    refine ⟨u, du, _, rfl, hU', rfl, ?_⟩
    refine ⟨_, rfl, t2, _, 0, _, rfl, rfl, SqT.of (s1 _ _ ht2), rfl, _, rfl, t1, _, 0, _, rfl, rfl, SqT.of (s1 _ _ ht1), rfl, x2, e2, _, _, rfl, hx2', T.ins_Amount ((hx1.up s1).choose_spec), .inl rfl, ?_⟩
    refine ⟨x2, .ref x1, q.1, rfl, hx2.up s1, up b2.1, .amt (hx1.up s1), .inl ⟨p.1, .obj (hx1.up s1), up b1.1, fun z H2 s2 hz hZ => ?_⟩⟩
    have bZ : Bits 2001 (q.1 - p.1) := b2.1.sub b1.1
    have nz : q.1 - p.1 ≠ 0 := fun e => hne (by grind)
    refine ⟨u, .ref z, q.2 - p.2, rfl, hU.up s2, up2 bU, .amt hZ, .inl ⟨q.1 - p.1, .obj hZ, up2 bZ, nz, fun x H3 s3 hx hX => ?_⟩⟩
    exact k x H3 ((s1.trans s2).trans s3) (none_of (s1.trans s2) hx) hX
/-- amounts in a row -/
inductive Qs (K : PySem.W.Frag) (H : Hp) : List V → List Rat → Prop
  | nil : Qs K H [] []
  | cons {x : Addr} {q : Rat} {vs : List V} {qs : List Rat} : IsQ K H x q → Qs K H vs qs → Qs K H (.ref x :: vs) (q :: qs)
theorem Qs.up {H H' : Hp} {vs : List V} {qs : List Rat} (h : Qs K H vs qs) (s : Same H H') : Qs K H' vs qs := by
  induction h with
  | nil => exact .nil
  | cons a b ih => exact .cons (a.up s) ih
theorem Qs.app {H : Hp} {vs ws : List V} {qs rs : List Rat} (h : Qs K H vs qs) (g : Qs K H ws rs) : Qs K H (vs ++ ws) (qs ++ rs) := by
  induction h with
  | nil => exact g
  | cons a b ih => exact .cons a ih
theorem Qs.length {H : Hp} {vs : List V} {qs : List Rat} (h : Qs K H vs qs) : vs.length = qs.length := by
  induction h with
  | nil => rfl
  | cons a b ih => simp [ih]
theorem Qs.get {H : Hp} {vs : List V} {qs : List Rat} (h : Qs K H vs qs) : ∀ {i : Nat} {q : Rat}, qs[i]? = some q → ∃ x, vs[i]? = some (.ref x) ∧ IsQ K H x q := by
  induction h with
  | nil => intro i p e; simp at e
  | cons a b ih =>
    intro i p e
    cases i with
    | zero => simp at e; subst e; exact ⟨_, rfl, a⟩
    | succ i => simpa using ih (by simpa using e)
theorem Qs.set {H : Hp} {vs : List V} {qs : List Rat} {D : Addr} {ys zs : List V} (h : Qs K H vs qs) (hD : H D = some (.lst ys)) : Qs K (upd H D (.lst zs)) vs qs := by
  induction h with
  | nil => exact .nil
  | cons a b ih =>
    obtain ⟨d, e⟩ := a
    refine .cons ⟨d, ?_⟩ ih
    rw [upd_ne (by rintro rfl; rw [e] at hD; cases hD)]
    exact e
def slopes (ps : List (Rat × Rat)) : List Rat := List.zipWith slopeQ ps ps.tail
theorem cut_tail (ws : List V) : cutV ws (some 1) none = ws.tail := by
  unfold cutV
  rw [show (some (1 : Int)) = some ((1 : Nat) : Int) from rfl, HT.sIx_nat, HT.sIx_none]
  cases ws with
  | nil => rfl
  | cons x l =>
    rw [show min 1 (x :: l).length = 1 by simp]
    simp
theorem no_whole {ws : List V} (h : 0 < ws.length) : ¬ (HT.sIx ws.length 0 (some 1) = 0 ∧ HT.sIx ws.length ws.length none = ws.length) := by
  rw [show (some (1 : Int)) = some ((1 : Nat) : Int) from rfl, HT.sIx_nat]
  omega
theorem Pts.at {H : Hp} {vs : List V} {ps : List (Rat × Rat)} (h : Pts K H vs ps) {i : Nat} {v : V} (hv : vs[i]? = some v) : ∃ p, ps[i]? = some p ∧ Pt K H v p := by
  have li : i < ps.length := by rw [← h.length]; exact (List.getElem?_eq_some_iff.mp hv).1
  obtain ⟨v', e, pt⟩ := h.get (List.getElem?_eq_getElem li)
  rw [hv] at e
  cases e
  exact ⟨_, List.getElem?_eq_getElem li, pt⟩
theorem slopes_at {ps : List (Rat × Rat)} {i : Nat} {p q : Rat × Rat} (h1 : ps[i]? = some p) (h2 : ps[i + 1]? = some q) : (slopes ps)[i]? = some (slopeQ p q) := by
  unfold slopes
  rw [List.getElem?_zipWith, h1, List.getElem?_tail, h2]
def spPaces (K : PySem.W.Frag) : Sp := fun vs H Q _ => ∃ (a : Addr) (ws : List V) (b : Bool) (ps : List (Rat × Rat)), vs = [.ref a] ∧ H a = some (mkS ws b) ∧ Pts K H ws ps ∧ ps.length < 1000 ∧ (b = false → ps ≠ []) ∧ Rising ps ∧ (∀ p ∈ ps, BitsP 1000 p) ∧
  ∀ D us H', Same H H' → H D = none → H' D = some (.lst us) → Qs K H' us ([1] ++ slopes ps ++ [1]) → Q (.ref D) H'
theorem sc_paces : FnScope ["points", "one", "other", "between"] ["points"] (defScope s_paces) := ⟨rfl, rfl, rfl, by decide +kernel, rfl, by decide +kernel, by decide +kernel⟩
theorem ok_paces (T : Tx K mg base) : Ok P w K mg base 9 (d_paces.loc K) ["points"] (spPaces K) := by
  refine mk_ok (k := 8) T.f_paces sc_paces (fun _ _ _ _ _ _ us hl => match us, hl with | [_], _ => rfl) (fun vs H Q E h => ?_) (fun cdv A outer s H vs Q E hr h => ?_)
  · obtain ⟨a, ws, b, ps, rfl, _⟩ := h
    rfl
  · obtain ⟨a, ws, b, ps, rfl, ha, hp, hlen, hb, hris, hbits, k⟩ := h
    refine ⟨_, (pss_cons (ps_setLc (i := 3) (own := [("one", 1), ("other", 2)]) (g := (gTup K 2 (gCons (gName 1) (gCons (gName 2) gNil)))) (tt := tYes) (by rfl) sc_paces.nd rfl rfl (sw_true rfl rfl rfl (by decide +kernel)) (RZ.pi_zipA (by rfl) T.b_zip (pa_cons (pv 0) (pa_cons (pe_slice sl_sq (pv 0) (po_some pe_int) po_none) pa_nil))) (blkOk_by (own := [("one", 1), ("other", 2)]) (N := ["points", "one", "other", "between"]) (sc := defScope s_paces) (by decide +kernel)) (fun _ _ _ _ _ => (pg_tup rfl (pgs_cons (pg_name (i := 1) sc_paces.nd rfl (Or.inl rfl)) (pgs_cons (pg_name (i := 2) sc_paces.nd rfl (Or.inl rfl)) pgs_nil)))) (fun _ _ _ _ _ => pts_nil) (fun _ _ _ _ _ => (ok_call (ok_slope T) (hr.mono (by decide)) rfl T.g_slope passL (pa_cons (pv 1) (pa_cons (pv 2) pa_nil)))))
      (pss_one (ps_ret (pe_op op_cat (pe_op op_cat (pe_lst (pa_cons (ok_makeD T.mkr_Amount (okd_Amount_init_ T) (hr.mono (by decide)) rfl T.g_Amount (passE rfl rfl rfl rfl) (pa_cons (pe_k T.c_ONE) pa_nil)) pa_nil)) (pv 3)) (pe_lst (pa_cons (ok_makeD T.mkr_Amount (okd_Amount_init_ T) (hr.mono (by decide)) rfl T.g_Amount (passE rfl rfl rfl rfl) (pa_cons (pe_k T.c_ONE) pa_nil)) pa_nil)))))), ?_⟩
    have hl := hp.length
    refine ⟨_, rfl, _, rfl, 1, rfl, a, ws, b, rfl, SqB.of ha, (fun e => no_whole (by rw [hl]; exact List.length_pos_iff.mpr (hb e))), fun p hpn => ?_⟩
    rw [cut_tail]
    have s0 : Same H (upd H p (mkS ws.tail b)) := AT.Same.up hpn
    have ha1 := s0 _ _ ha
    have hp1 : upd H p (mkS ws.tail b) p = some (mkS ws.tail b) := upd_same
    generalize upd H p (mkS ws.tail b) = H1 at s0 ha1 hp1 ⊢
    have sl : (slopes ps).length = ws.length - 1 := by
      unfold slopes
      rw [List.length_zipWith, List.length_tail, hl]
      omega
    have hn : ws.length - 1 = min ws.length ws.tail.length := by rw [List.length_tail]; omega
    have two : (SqL K H1 a ws ∧ SqL K H1 p ws.tail) ∨ (SqT K H1 a ws ∧ SqT K H1 p ws.tail) := by
      cases b with
      | true => exact .inl ⟨SqL.of ha1, SqL.of hp1⟩
      | false => exact .inr ⟨SqT.of ha1, SqT.of hp1⟩
    have fin : ∀ (D : Addr) (us : List V) (H' : Hp), Same H1 H' → H1 D = none → H' D = some (.lst us) → Qs K H' us (slopes ps) →
        tRet (tOp rCat (tOp rCat (tLst (tCons (tMake (He.ga K "Amount") (spAmt K) [.int 1] E (tCons (tC (.int 1)) tNil)) tNil)) (tVar 3)) (tLst (tCons (tMake (He.ga K "Amount") (spAmt K) [.int 1] E (tCons (tC (.int 1)) tNil)) tNil))) { nx := fun x H' => Q V.non H', rt := Q } ([some (.ref a), none, none, some (.ref D)] : L2.St) H' := by
      intro D us H' sm hD hl1 hq
      have lu := hq.length
      refine fun x dx hx hdx hne => ⟨x, dx, _, _, rfl, upd_same, .int _, .int _, .inl ⟨1, 1, rfl, rfl, by decide, by decide +kernel, rfl, ?_⟩⟩
      have sA : Same H' (upd (upd (upd H' dx (.own x)) x (.ins (cA K) dx [])) x (.ins (cA K) dx (amtQ (Rat.divInt 1 1)))) := made_same hx hdx
      have hX : IsQ K (upd (upd (upd H' dx (.own x)) x (.ins (cA K) dx [])) x (.ins (cA K) dx (amtQ (Rat.divInt 1 1)))) x (1 : Rat) := ⟨dx, by rw [upd_same, q_int]; rfl⟩
      generalize upd (upd (upd H' dx (.own x)) x (.ins (cA K) dx [])) x (.ins (cA K) dx (amtQ (Rat.divInt 1 1))) = HA at sA hX ⊢
      refine ⟨(by show 1 ≤ sizeLine; decide), fun q1 hq1 => ?_⟩
      have sB := AT.Same.up (o := .lst [.ref x]) hq1
      refine ⟨_, rfl, q1, D, _, _, rfl, rfl, upd_same, sB _ _ (sA _ _ hl1), (by rw [sizeLine_eq]; show 1 + _ ≤ _; omega), fun r hr => ?_⟩
      have sC := AT.Same.up (o := .lst ([.ref x] ++ us)) hr
      refine fun y dy hy hdy hne2 => ⟨y, dy, _, _, rfl, upd_same, .int _, .int _, .inl ⟨1, 1, rfl, rfl, by decide, by decide +kernel, rfl, ?_⟩⟩
      have sD := made_same (o1 := .ins (cA K) dy []) (o2 := .ins (cA K) dy (amtQ (Rat.divInt 1 1))) hy hdy
      have hY : IsQ K (upd (upd (upd (upd (upd HA q1 (.lst [.ref x])) r (.lst ([.ref x] ++ us))) dy (.own y)) y (.ins (cA K) dy [])) y (.ins (cA K) dy (amtQ (Rat.divInt 1 1)))) y (1 : Rat) := ⟨dy, by rw [upd_same, q_int]; rfl⟩
      refine ⟨(by show 1 ≤ sizeLine; decide), fun q2 hq2 => ?_⟩
      have sE := AT.Same.up (o := .lst [.ref y]) hq2
      refine ⟨r, q2, _, _, rfl, rfl, sE _ _ (sD _ _ upd_same), upd_same, (by rw [sizeLine_eq, List.length_append]; show 1 + _ + 1 ≤ _; omega), fun z hz => ?_⟩
      have sF := AT.Same.up (o := .lst ([.ref x] ++ us ++ [.ref y])) hz
      have all : Same H' _ := (((sA.trans sB).trans sC).trans sD).trans (sE.trans sF)
      have back : Same HA _ := ((sB.trans sC).trans sD).trans (sE.trans sF)
      refine k z _ _ ((s0.trans sm).trans all) (none_of ((s0.trans sm).trans ((((sA.trans sB).trans sC).trans sD).trans sE)) hz) upd_same ?_
      exact ((Qs.cons (hX.up back) .nil).app (hq.up all)).app (.cons ((hY.up sE).up sF) .nil)
    refine ⟨a, p, ws, ws.tail, rfl, two.imp (fun z => ⟨z.1, z.2, fun D hD => ?_⟩) (fun z => ⟨z.1, z.2, fun D hD => ?_⟩)⟩
    · refine lc_it (walk_zip hn) (fun i H' => ∃ us, Same H1 H' ∧ H' D = some (.lst us) ∧ Qs K H' us ((slopes ps).take i)) ⟨[], AT.Same.up hD, upd_same, .nil⟩ (fun i H' hi ⟨us, sm, hl1, hq⟩ => ⟨AT.Same.sql sm z.1, AT.Same.sql sm z.2⟩) (fun i x H' H2 hi ⟨us, sm, hl1, hq⟩ ⟨Tp, x0, y0, e1, hTp, e2, hx0, hy0⟩ => ?_) (fun H' ⟨us, sm, hl1, hq⟩ => ?_)
      · subst e1 e2
        have hx0 : ws[i]? = some x0 := hx0
        have hy0 : ws[i + 1]? = some y0 := by
          have z : ws.tail[i]? = some y0 := hy0
          rw [List.getElem?_tail] at z
          exact z
        have s2 := sm.trans (AT.Same.up (o := .tup [x0, y0]) hTp)
        obtain ⟨p1, ep, pt1⟩ := hp.at hx0
        obtain ⟨p2, eq, pt2⟩ := hp.at hy0
        have bw := Rising.step hris ep eq
        refine ⟨Tp, _, rfl, SqT.of upd_same, rfl, _, _, rfl, _, _, rfl, rfl, rfl, ?_⟩
        dsimp only [tYes]
        refine iteT ⟨_, rfl, _, rfl, x0, y0, p1, p2, rfl, (pt1.up s0).up s2, (pt2.up s0).up s2, hbits _ (List.mem_of_getElem? ep), hbits _ (List.mem_of_getElem? eq), (by have := bw.1; grind), fun u H3 s3 hu hU => ?_⟩
        have hl3 := s3 _ _ ((AT.Same.up (o := .tup [x0, y0]) hTp) _ _ hl1)
        have hq3 := (hq.up (AT.Same.up (o := .tup [x0, y0]) hTp)).up s3
        have lu := hq.length
        rw [List.length_take] at lu
        refine ⟨us, hl3, (by rw [sizeLine_eq]; omega), us ++ [.ref u], AT.Same.new (s2.trans s3) hD, upd_same, ?_⟩
        rw [List.take_add_one, slopes_at ep eq]
        exact (hq3.app (.cons hU .nil)).set hl3
      · rw [← sl, List.take_length] at hq
        exact fin D us H' sm hD hl1 hq
    · refine lc_it (walk_zipT hn) (fun i H' => ∃ us, Same H1 H' ∧ H' D = some (.lst us) ∧ Qs K H' us ((slopes ps).take i)) ⟨[], AT.Same.up hD, upd_same, .nil⟩ (fun i H' hi ⟨us, sm, hl1, hq⟩ => ⟨AT.Same.tup sm z.1, AT.Same.tup sm z.2⟩) (fun i x H' H2 hi ⟨us, sm, hl1, hq⟩ ⟨Tp, x0, y0, e1, hTp, e2, hx0, hy0⟩ => ?_) (fun H' ⟨us, sm, hl1, hq⟩ => ?_)
      · subst e1 e2
        have hx0 : ws[i]? = some x0 := hx0
        have hy0 : ws[i + 1]? = some y0 := by
          have z : ws.tail[i]? = some y0 := hy0
          rw [List.getElem?_tail] at z
          exact z
        have s2 := sm.trans (AT.Same.up (o := .tup [x0, y0]) hTp)
        obtain ⟨p1, ep, pt1⟩ := hp.at hx0
        obtain ⟨p2, eq, pt2⟩ := hp.at hy0
        have bw := Rising.step hris ep eq
        refine ⟨Tp, _, rfl, SqT.of upd_same, rfl, _, _, rfl, _, _, rfl, rfl, rfl, ?_⟩
        dsimp only [tYes]
        refine iteT ⟨_, rfl, _, rfl, x0, y0, p1, p2, rfl, (pt1.up s0).up s2, (pt2.up s0).up s2, hbits _ (List.mem_of_getElem? ep), hbits _ (List.mem_of_getElem? eq), (by have := bw.1; grind), fun u H3 s3 hu hU => ?_⟩
        have hl3 := s3 _ _ ((AT.Same.up (o := .tup [x0, y0]) hTp) _ _ hl1)
        have hq3 := (hq.up (AT.Same.up (o := .tup [x0, y0]) hTp)).up s3
        have lu := hq.length
        rw [List.length_take] at lu
        refine ⟨us, hl3, (by rw [sizeLine_eq]; omega), us ++ [.ref u], AT.Same.new (s2.trans s3) hD, upd_same, ?_⟩
        rw [List.take_add_one, slopes_at ep eq]
        exact (hq3.app (.cons hU .nil)).set hl3
      · rw [← sl, List.take_length] at hq
        exact fin D us H' sm hD hl1 hq
end
end K09

set_option maxHeartbeats 4000000
namespace K09
open PySem PySem.Spec PyProof.Rows L2 AT
section
variable {P : Program} {w : World} {K : PySem.W.Frag} {mg : Str → Option Value} {base : Heap}
/-- a coordinate: the beat (0), the second (1) -/
def crd (c : Bool) (p : Rat × Rat) : Rat := if c then p.2 else p.1
def cInt (c : Bool) : Int := if c then 1 else 0
/-- the places of the points that do not lie above v -/
def aheadQ (ps : List (Rat × Rat)) (c : Bool) (v : Rat) (n : Nat) : List Nat := (List.range n).filter fun i => match ps[i]? with
  | some p => decide (crd c p ≤ v)
  | none => false
def ledQ (ps : List (Rat × Rat)) (v : Rat) (h t : Bool) : Rat := match ps with
  | [] => v
  | p0 :: _ => match (aheadQ ps h v ps.length).getLast? with
    | none => crd t p0 + (v - crd h p0)
    | some l => match ps[l]?, ps[l + 1]? with
      | some p, none => crd t p + (v - crd h p)
      | some p, some q => crd t p + (v - crd h p) / (crd h q - crd h p) * (crd t q - crd t p)
      | _, _ => 0
theorem Pt.crd {H : Hp} {t : V} {p : Rat × Rat} (h : Pt K H t p) (c : Bool) : ∃ a xs x, t = .ref a ∧ H a = some (.tup xs) ∧ atI xs (cInt c) = some (.ref x) ∧ IsQ K H x (crd c p) := by
  obtain ⟨a, x, y, e, h1, h2, h3⟩ := h
  cases c with
  | true => exact ⟨a, _, y, e, h1, rfl, h3⟩
  | false => exact ⟨a, _, x, e, h1, rfl, h2⟩
theorem BitsP.crd {k : Nat} {p : Rat × Rat} (h : BitsP k p) (c : Bool) : Bits k (crd c p) := by
  cases c with
  | true => exact h.2
  | false => exact h.1
theorem ahead_step (ps : List (Rat × Rat)) (c : Bool) (v : Rat) {i : Nat} {p : Rat × Rat} (h : ps[i]? = some p) : aheadQ ps c v (i + 1) = aheadQ ps c v i ++ (if crd c p ≤ v then [i] else []) := by
  unfold aheadQ
  rw [List.range_succ, List.filter_append]
  congr 1
  by_cases z : crd c p ≤ v
  · simp [List.filter, h, z]
  · simp [List.filter, h, z]
theorem cmp_le (x y : Rat) : decide (cmpQ x y ≤ 0) = decide (x ≤ y) := by
  unfold cmpQ
  by_cases h : y < x
  · have h2 : ¬ x < y := by grind
    have h3 : ¬ x ≤ y := by grind
    simp [h, h2, h3]
  · have h3 : x ≤ y := by grind
    simp [h, h3]
    split <;> decide
def spLed (K : PySem.W.Frag) : Sp := fun vs H Q _ => ∃ (a : Addr) (ws : List V) (b : Bool) (ps : List (Rat × Rat)) (x : Addr) (v : Rat) (h t : Bool), vs = [.ref a, .ref x, .int (cInt h), .int (cInt t)] ∧ H a = some (mkS ws b) ∧ Pts K H ws ps ∧ ps.length < 1000 ∧ Rising ps ∧ (∀ p ∈ ps, BitsP 400 p) ∧ IsQ K H x v ∧ Bits 400 v ∧
  ∀ r H', Same H H' → IsQ K H' r (ledQ ps v h t) → Q (.ref r) H'
theorem sc_led : FnScope ["points", "value", "here", "there", "at", "point", "ahead", "last", "one", "other", "part"] ["points", "value", "here", "there"] (defScope s_led) := ⟨rfl, rfl, rfl, by decide +kernel, rfl, by decide +kernel, by decide +kernel⟩
theorem ok_led (T : Tx K mg base) : Ok P w K mg base 9 (d_led.loc K) ["points", "value", "here", "there"] (spLed K) := by
  refine mk_ok (k := 8) T.f_led sc_led (fun _ _ _ _ _ _ us hl => match us, hl with | [_, _, _, _], _ => rfl) (fun vs H Q E h => ?_) (fun cdv A outer s H vs Q E hr h => ?_)
  · obtain ⟨a, ws, b, ps, x, v, h, t, rfl, _⟩ := h
    rfl
  · obtain ⟨a, ws, b, ps, x, v, hh, tt, rfl, ha, hp, hlen, hris, hbits, hx, bv, k⟩ := h
    refine ⟨_, (pss_cons (ps_if (pt_not (pt_truth (pv 0) (by intro _; rfl))) (pss_one (ps_ret (pv 1))) pss_nil)
      (pss_cons (ps_setLc (i := 6) (own := [("at", 4), ("point", 5)]) (g := (gTup K 2 (gCons (gName 4) (gCons (gName 5) gNil)))) (by rfl) sc_led.nd rfl rfl (sw_true rfl rfl rfl (by decide +kernel)) (pi_enumA (by rfl) T.b_enumerate (pa_cons (pv 0) pa_nil)) (blkOk_by (own := [("at", 4), ("point", 5)]) (N := ["points", "value", "here", "there", "at", "point", "ahead", "last", "one", "other", "part"]) (sc := defScope s_led) (by decide +kernel)) (fun _ _ _ _ _ => (pg_tup rfl (pgs_cons (pg_name (i := 4) sc_led.nd rfl (Or.inl rfl)) (pgs_cons (pg_name (i := 5) sc_led.nd rfl (Or.inl rfl)) pgs_nil)))) (fun _ _ _ _ _ => (pts_one (pt_cmpR op_le (ok_meth T.cls_Amount T.m_Amount_compare (ok_Amount_compare T) (hr.mono (by decide)) passL (pe_ix (show IxR _ (rIxT K) from ix_tup) (pv 5) (pv 2) (fun _ _ => rfl)) (pa_cons (pv 1) pa_nil)) pe_int (nomark _)))) (fun _ _ _ _ _ => (pv 4)))
      (pss_cons (ps_if (pt_not (pt_truth (pv 6) (by intro _; rfl))) (pss_one (ps_ret (pe_op (op_own T.op_Amount_add (ok_Amount_add_ T) (hr.mono (by decide)) (passE rfl rfl rfl rfl)) (pe_ix ix_tup (pe_ix ix_sq (pv 0) pe_int (fun _ _ => rfl)) (pv 3) (fun _ _ => rfl)) (pe_op (op_own T.op_Amount_sub (ok_Amount_sub_ T) (hr.mono (by decide)) (passE rfl rfl rfl rfl)) (pv 1) (pe_ix ix_tup (pe_ix ix_sq (pv 0) pe_int (fun _ _ => rfl)) (pv 2) (fun _ _ => rfl)))))) pss_nil)
      (pss_cons (ps_set (i := 7) sc_led.nd rfl (Or.inl rfl) (pe_ix ix_list (pv 6) (pe_un un_neg pe_int) (fun _ _ => rfl)))
      (pss_cons (ps_if (pt_cmpR op_eq (pe_op op_add (pv 7) pe_int) (pe_callB call_len_seq (by rfl) T.b_len (by decide +kernel) (pa_cons (pv 0) pa_nil)) (nomark _)) (pss_one (ps_ret (pe_op (op_own T.op_Amount_add (ok_Amount_add_ T) (hr.mono (by decide)) (passE rfl rfl rfl rfl)) (pe_ix ix_tup (pe_ix ix_sq (pv 0) (pv 7) (fun _ _ => rfl)) (pv 3) (fun _ _ => rfl)) (pe_op (op_own T.op_Amount_sub (ok_Amount_sub_ T) (hr.mono (by decide)) (passE rfl rfl rfl rfl)) (pv 1) (pe_ix ix_tup (pe_ix ix_sq (pv 0) (pv 7) (fun _ _ => rfl)) (pv 2) (fun _ _ => rfl)))))) pss_nil)
      (pss_cons (ps_par (by rfl) sc_led.nd (i := 8) (j := 9) rfl rfl (by decide) rfl rfl (pa_cons (pe_ix ix_sq (pv 0) (pv 7) (fun _ _ => rfl)) (pa_cons (pe_ix ix_sq (pv 0) (pe_op op_add (pv 7) pe_int) (fun _ _ => rfl)) pa_nil)) (by rfl))
      (pss_cons (ps_set (i := 10) sc_led.nd rfl (Or.inl rfl) (ok_meth T.cls_Amount T.m_Amount_divided (ok_Amount_divided T) (hr.mono (by decide)) (passE rfl rfl rfl rfl) (pe_op (op_own T.op_Amount_sub (ok_Amount_sub_ T) (hr.mono (by decide)) (passE rfl rfl rfl rfl)) (pv 1) (pe_ix ix_tup (pv 8) (pv 2) (fun _ _ => rfl))) (pa_cons (pe_op (op_own T.op_Amount_sub (ok_Amount_sub_ T) (hr.mono (by decide)) (passE rfl rfl rfl rfl)) (pe_ix ix_tup (pv 9) (pv 2) (fun _ _ => rfl)) (pe_ix ix_tup (pv 8) (pv 2) (fun _ _ => rfl))) pa_nil)))
      (pss_one (ps_ret (pe_op (op_own T.op_Amount_add (ok_Amount_add_ T) (hr.mono (by decide)) (passE rfl rfl rfl rfl)) (pe_ix ix_tup (pv 8) (pv 3) (fun _ _ => rfl)) (pe_op (op_own T.op_Amount_mul (ok_Amount_mul_ T) (hr.mono (by decide)) (passE rfl rfl rfl rfl)) (pv 10) (pe_op (op_own T.op_Amount_sub (ok_Amount_sub_ T) (hr.mono (by decide)) (passE rfl rfl rfl rfl)) (pe_ix ix_tup (pv 9) (pv 3) (fun _ _ => rfl)) (pe_ix ix_tup (pv 8) (pv 3) (fun _ _ => rfl)))))))))))))), ?_⟩
    have hl := hp.length
    refine ⟨_, rfl, !ws.isEmpty, ?_, ?_⟩
    · cases b with
      | true => exact .inl ⟨ws, SqL.of ha, rfl⟩
      | false => exact .inr (.inl ⟨ws, SqT.of ha, rfl⟩)
    cases hw : ws.isEmpty with
    | true =>
      have e0 : ws = [] := by simpa using hw
      have e1 : ps = [] := List.length_eq_zero_iff.mp (by rw [← hl, e0]; rfl)
      refine iteT ⟨_, rfl, k x H (Same.refl _) ?_⟩
      rw [e1]
      exact hx
    | false =>
      have e0 : ws ≠ [] := by rintro rfl; simp at hw
      refine iteF ⟨_, rfl, a, ws, rfl, (SqB.of ha).or, fun J hJ D hD => ?_⟩
      obtain ⟨G, wk, hG⟩ := en_walk hJ
      have hHa : ∀ H', Same H H' → H' a = H a := fun H' s => by rw [s _ _ ha, ha]
      have up : ∀ {q : Rat}, Bits 400 q → Bits 3000 q := fun h => h.mono (by decide)
      have hsz : sizeLine = 16777216 := sizeLine_eq
      refine lc_it wk (fun i H' => Same H H' ∧ H' D = some (.lst ((aheadQ ps hh v i).map fun j => V.int (j : Nat)))) ⟨AT.Same.up hD, upd_same⟩ (fun i H' hi hP => hG _ (hHa _ hP.1)) (fun i z H' H2 hi hP hY => ?_) (fun H' hP => ?_)
      · obtain ⟨sm, hl1⟩ := hP
        obtain ⟨Tp, x0, y0, rfl, hTp, rfl, e1, hy0⟩ := hY
        cases e1
        have hy0 : ws[i]? = some y0 := hy0
        have s2 := AT.Same.up (o := .tup [.int (i : Nat), y0]) hTp
        obtain ⟨p1, ep, pt1⟩ := hp.at hy0
        obtain ⟨aa, xs, xc, rfl, haa, hat, hxc⟩ := ((pt1.up sm).up s2).crd hh
        obtain ⟨dc, hxc'⟩ := id hxc
        refine ⟨Tp, _, rfl, SqT.of upd_same, rfl, _, _, rfl, _, _, rfl, rfl, rfl, ?_⟩
        refine ⟨_, rfl, _, rfl, aa, xs, _, _, rfl, rfl, SqT.of haa, hat, xc, dc, _, rfl, hxc', rfl, _, rfl, xc, .ref x, _, rfl, hxc, up ((hbits _ (List.mem_of_getElem? ep)).crd hh), .amt ((hx.up sm).up s2), .inl ⟨v, .obj ((hx.up sm).up s2), up bv, fun H3 s3 => ?_⟩⟩
        refine ⟨_, _, rfl, rfl, _, rfl, ?_⟩
        rw [cmp_le]
        have hl3 := s3 _ _ (s2 _ _ hl1)
        have st := ahead_step ps hh v ep
        by_cases c : crd hh p1 ≤ v
        · rw [decide_eq_true c]
          rw [if_pos c] at st
          have ln : (aheadQ ps hh v i).length ≤ i := by
            unfold aheadQ
            exact Nat.le_trans (List.length_filter_le _ _) (by rw [List.length_range]; exact Nat.le_refl _)
          refine iteT ⟨_, rfl, _, hl3, (by rw [List.length_map]; omega), AT.Same.new ((sm.trans s2).trans s3) hD, ?_⟩
          rw [upd_same, st, List.map_append]
          rfl
        · rw [decide_eq_false c]
          rw [if_neg c, List.append_nil] at st
          refine iteF ⟨(sm.trans s2).trans s3, ?_⟩
          rw [st]
          exact hl3
      · obtain ⟨sm, hl1⟩ := hP
        rw [hl] at hl1
        have ha1 := sm _ _ ha
        have sq1 := (SqB.of (K := K) ha1).or
        obtain ⟨dx, hx1⟩ := hx.up sm
        refine ⟨_, rfl, _, .inl ⟨_, SqL.of hl1, rfl⟩, ?_⟩
        have get : ∀ {i : Nat} {p : Rat × Rat} (c : Bool), ps[i]? = some p → ∃ aa xs xc dc, ws[i]? = some (.ref aa) ∧ H' aa = some (.tup xs) ∧ atI xs (cInt c) = some (.ref xc) ∧ H' xc = some (.ins (cA K) dc (amtQ (crd c p))) := by
          intro i p c e
          obtain ⟨v0, ew, pt⟩ := hp.get e
          obtain ⟨aa, xs, xc, rfl, h1, h2, dc, h3⟩ := (pt.up sm).crd c
          exact ⟨aa, xs, xc, dc, ew, h1, h2, h3⟩
        obtain ⟨p0, ps', rfl⟩ : ∃ p0 ps', ps = p0 :: ps' := by
          cases ps with
          | nil => exact absurd (List.length_eq_zero_iff.mp (by rw [hl]; rfl)) e0
          | cons p r => exact ⟨p, r, rfl⟩
        cases hg : (aheadQ (p0 :: ps') hh v (p0 :: ps').length).getLast? with
        | none =>
          have e1 : aheadQ (p0 :: ps') hh v (p0 :: ps').length = [] := by simpa using hg
          rw [e1]
          obtain ⟨ta, txs, tx, td, ew, h1, h2, h3⟩ := get (i := 0) tt rfl
          obtain ⟨ha_, hxs, hxx, hd, ew', g1, g2, g3⟩ := get (i := 0) hh rfl
          have b0 := hbits p0 (List.mem_cons_self)
          refine iteT ⟨_, rfl, a, ws, 0, _, rfl, rfl, sq1, atI_nat ew, _, rfl, ta, txs, _, _, rfl, rfl, SqT.of h1, h2, _, rfl, _, rfl, a, ws, 0, _, rfl, rfl, sq1, atI_nat ew', _, rfl, ha_, hxs, _, _, rfl, rfl, SqT.of g1, g2, x, dx, _, _, rfl, hx1, T.ins_Amount g3, .inl rfl, ?_⟩
          refine ⟨x, .ref hxx, v, rfl, ⟨dx, hx1⟩, up bv, .amt ⟨hd, g3⟩, .inl ⟨_, .obj ⟨hd, g3⟩, up (b0.crd hh), fun u H3 s3 hu hU => ?_⟩⟩
          obtain ⟨du, hU'⟩ := id hU
          refine ⟨tx, td, _, _, rfl, s3 _ _ h3, T.ins_Amount hU', .inl rfl, tx, .ref u, _, rfl, ⟨td, s3 _ _ h3⟩, up (b0.crd tt), .amt hU, .inl ⟨_, .obj hU, (bv.sub (b0.crd hh)).mono (by decide), fun r H4 s4 hr hR => ?_⟩⟩
          refine k r H4 ((sm.trans s3).trans s4) ?_
          have e2 : ledQ (p0 :: ps') v hh tt = crd tt p0 + (v - crd hh p0) := by
            unfold ledQ
            simp only [hg]
          rw [e2]
          exact hR
        | some l =>
          have ml := List.mem_of_getLast? hg
          have ll : l < (p0 :: ps').length := by
            unfold aheadQ at ml
            exact List.mem_range.mp (List.mem_filter.mp ml).1
          have ep : (p0 :: ps')[l]? = some (p0 :: ps')[l] := List.getElem?_eq_getElem ll
          generalize hpl : (p0 :: ps')[l] = p at ep
          have ne : ((aheadQ (p0 :: ps') hh v (p0 :: ps').length).map fun j => V.int (j : Nat)).isEmpty = false := by
            cases z : aheadQ (p0 :: ps') hh v (p0 :: ps').length with
            | nil => rw [z] at ml; cases ml
            | cons _ _ => rfl
          rw [ne]
          have bp := hbits p (List.mem_of_getElem? ep)
          refine iteF ⟨_, rfl, _, rfl, D, _, _, .int (l : Nat), rfl, rfl, SqL.of hl1, at_last (by rw [List.getLast?_map, hg]; rfl), ?_⟩
          refine ⟨_, rfl, _, _, rfl, rfl, _, rfl, a, ws, rfl, sq1, rfl, _, rfl, ?_⟩
          obtain ⟨ta, txs, tx, td, ew, h1, h2, h3⟩ := get tt ep
          obtain ⟨ha_, hxs, hxx, hd, ew', g1, g2, g3⟩ := get hh ep
          have same : V.ref ha_ = V.ref ta := by
            rw [ew] at ew'
            exact (Option.some.inj ew').symm
          by_cases c : l + 1 = ws.length
          · rw [decide_eq_true (show V.int ((l : Nat) + 1 : Int) = V.int (ws.length : Nat) by rw [← c]; rfl)]
            refine iteT ⟨_, rfl, _, rfl, a, ws, _, _, rfl, rfl, sq1, atI_nat ew, _, rfl, ta, txs, _, _, rfl, rfl, SqT.of h1, h2, _, rfl, _, rfl, _, rfl, a, ws, _, _, rfl, rfl, sq1, atI_nat ew', _, rfl, ha_, hxs, _, _, rfl, rfl, SqT.of g1, g2, x, dx, _, _, rfl, hx1, T.ins_Amount g3, .inl rfl, ?_⟩
            refine ⟨x, .ref hxx, v, rfl, ⟨dx, hx1⟩, up bv, .amt ⟨hd, g3⟩, .inl ⟨_, .obj ⟨hd, g3⟩, up (bp.crd hh), fun u H3 s3 hu hU => ?_⟩⟩
            obtain ⟨du, hU'⟩ := id hU
            refine ⟨tx, td, _, _, rfl, s3 _ _ h3, T.ins_Amount hU', .inl rfl, tx, .ref u, _, rfl, ⟨td, s3 _ _ h3⟩, up (bp.crd tt), .amt hU, .inl ⟨_, .obj hU, (bv.sub (bp.crd hh)).mono (by decide), fun r H4 s4 hr hR => ?_⟩⟩
            refine k r H4 ((sm.trans s3).trans s4) ?_
            have en : (p0 :: ps')[l + 1]? = none := List.getElem?_eq_none (by omega)
            have e2 : ledQ (p0 :: ps') v hh tt = crd tt p + (v - crd hh p) := by
              unfold ledQ
              simp only [hg, ep, en]
            rw [e2]
            exact hR
          · rw [decide_eq_false (show ¬ V.int ((l : Nat) + 1 : Int) = V.int (ws.length : Nat) from fun z => c (by have := V.int.inj z; omega))]
            have l2 : l + 1 < (p0 :: ps').length := by omega
            have eq : (p0 :: ps')[l + 1]? = some (p0 :: ps')[l + 1] := List.getElem?_eq_getElem l2
            generalize hql : (p0 :: ps')[l + 1] = q at eq
            have bq := hbits q (List.mem_of_getElem? eq)
            obtain ⟨ua, uxs, ux, ud, ev, i1, i2, i3⟩ := get tt eq
            obtain ⟨va, vxs, vx, vd, ev', j1, j2, j3⟩ := get hh eq
            have same2 : V.ref va = V.ref ua := by
              rw [ev] at ev'
              exact (Option.some.inj ev').symm
            cases same
            cases same2
            have bw := Rising.step hris ep eq
            have nz : crd hh q - crd hh p ≠ 0 := by
              cases hh
              · have := bw.1
                show q.1 - p.1 ≠ 0
                grind
              · have := bw.2
                show q.2 - p.2 ≠ 0
                grind
            refine iteF ⟨_, rfl, _, rfl, a, ws, _, _, rfl, rfl, sq1, atI_nat ew, _, rfl, _, rfl, _, _, rfl, rfl, a, ws, _, _, rfl, rfl, sq1, (by rw [show ((l : Nat) + 1 : Int) = ((l + 1 : Nat) : Int) by omega]; exact atI_nat ev), _, _, rfl, ?_⟩
            have bd1 : Bits 801 (v - crd hh p) := bv.sub (bp.crd hh)
            have bd2 : Bits 801 (crd hh q - crd hh p) := (bq.crd hh).sub (bp.crd hh)
            have bd3 : Bits 801 (crd tt q - crd tt p) := (bq.crd tt).sub (bp.crd tt)
            have bd4 : Bits 1602 ((v - crd hh p) / (crd hh q - crd hh p)) := bd1.div bd2 nz
            have bd5 : Bits 2403 ((v - crd hh p) / (crd hh q - crd hh p) * (crd tt q - crd tt p)) := bd4.mul bd3
            refine ⟨_, rfl, _, rfl, _, rfl, _, _, _, _, rfl, rfl, SqT.of g1, g2, x, dx, _, _, rfl, hx1, T.ins_Amount g3, .inl rfl, x, .ref hxx, v, rfl, ⟨dx, hx1⟩, up bv, .amt ⟨hd, g3⟩, .inl ⟨_, .obj ⟨hd, g3⟩, up (bp.crd hh), fun u H3 s3 hu hU => ?_⟩⟩
            obtain ⟨du, hU'⟩ := id hU
            refine ⟨u, du, _, rfl, hU', rfl, ?_⟩
            refine ⟨_, rfl, _, rfl, _, _, _, _, rfl, rfl, SqT.of (s3 _ _ j1), j2, _, rfl, _, rfl, _, _, _, _, rfl, rfl, SqT.of (s3 _ _ g1), g2, vx, vd, _, _, rfl, s3 _ _ j3, T.ins_Amount (s3 _ _ g3), .inl rfl, vx, .ref hxx, _, rfl, ⟨vd, s3 _ _ j3⟩, up (bq.crd hh), .amt ⟨hd, s3 _ _ g3⟩, .inl ⟨_, .obj ⟨hd, s3 _ _ g3⟩, up (bp.crd hh), fun z H4 s4 hz hZ => ?_⟩⟩
            refine ⟨u, .ref z, _, rfl, hU.up s4, bd1.mono (by decide), .amt hZ, .inl ⟨_, .obj hZ, bd2.mono (by decide), nz, fun r1 H5 s5 hr1 hR1 => ?_⟩⟩
            have s35 := (s3.trans s4).trans s5
            refine ⟨_, rfl, _, rfl, _, _, _, _, rfl, rfl, SqT.of (s35 _ _ h1), h2, _, rfl, _, rfl, _, rfl, _, _, _, _, rfl, rfl, SqT.of (s35 _ _ i1), i2, _, rfl, _, rfl, _, _, _, _, rfl, rfl, SqT.of (s35 _ _ h1), h2, ux, ud, _, _, rfl, s35 _ _ i3, T.ins_Amount (s35 _ _ h3), .inl rfl, ux, .ref tx, _, rfl, ⟨ud, s35 _ _ i3⟩, up (bq.crd tt), .amt ⟨td, s35 _ _ h3⟩, .inl ⟨_, .obj ⟨td, s35 _ _ h3⟩, up (bp.crd tt), fun d1 H6 s6 hd1 hD1 => ?_⟩⟩
            obtain ⟨dr, hR1'⟩ := hR1.up s6
            obtain ⟨dd, hD1'⟩ := id hD1
            refine ⟨r1, dr, _, _, rfl, hR1', T.ins_Amount hD1', .inl rfl, r1, .ref d1, _, rfl, ⟨dr, hR1'⟩, bd4.mono (by decide), .amt hD1, .inl ⟨_, .obj hD1, bd3.mono (by decide), fun m H7 s7 hm hM => ?_⟩⟩
            obtain ⟨dm, hM'⟩ := id hM
            have s37 := (s35.trans s6).trans s7
            refine ⟨tx, td, _, _, rfl, s37 _ _ h3, T.ins_Amount hM', .inl rfl, tx, .ref m, _, rfl, ⟨td, s37 _ _ h3⟩, up (bp.crd tt), .amt hM, .inl ⟨_, .obj hM, bd5.mono (by decide), fun r H8 s8 hr hR => ?_⟩⟩
            refine k r H8 ((sm.trans s37).trans s8) ?_
            have e2 : ledQ (p0 :: ps') v hh tt = crd tt p + (v - crd hh p) / (crd hh q - crd hh p) * (crd tt q - crd tt p) := by
              unfold ledQ
              simp only [hg, ep, eq]
            rw [e2]
            exact hR
end
end K09

set_option maxHeartbeats 4000000
namespace K09
open PySem PySem.Spec PyProof.Rows L2 AT
section
variable {P : Program} {w : World} {K : PySem.W.Frag} {mg : Str → Option Value} {base : Heap}
def steepQ (ps : List (Rat × Rat)) : List Rat := [1] ++ slopes ps ++ [1]
/-- the places of the first n points at which the pace changes -/
def bendAt (ps : List (Rat × Rat)) (n : Nat) : List (Rat × Rat) := (List.range n).filterMap fun i => if (steepQ ps)[i]? ≠ (steepQ ps)[i + 1]? then ps[i]? else none
def bendQ (ps : List (Rat × Rat)) : List (Rat × Rat) := if bendAt ps ps.length = [] then [(0, ledQ ps 0 false true)] else bendAt ps ps.length
theorem bend_step (ps : List (Rat × Rat)) {i : Nat} {p : Rat × Rat} {x y : Rat} (h : ps[i]? = some p) (hx : (steepQ ps)[i]? = some x) (hy : (steepQ ps)[i + 1]? = some y) : bendAt ps (i + 1) = bendAt ps i ++ (if x = y then [] else [p]) := by
  unfold bendAt
  rw [List.range_succ, List.filterMap_append]
  congr 1
  by_cases z : x = y
  · simp [hx, hy, z]
  · simp [hx, hy, z, h]
theorem bend_len (ps : List (Rat × Rat)) (i : Nat) : (bendAt ps i).length ≤ i := by
  unfold bendAt
  exact Nat.le_trans (List.length_filterMap_le _ _) (by rw [List.length_range]; exact Nat.le_refl _)
theorem steep_len {ps : List (Rat × Rat)} (h : ps ≠ []) : (steepQ ps).length = ps.length + 1 := by
  unfold steepQ slopes
  have := List.length_pos_iff.mpr h
  simp only [List.length_append, List.length_zipWith, List.length_tail, List.length_cons, List.length_nil]
  omega
def spBends (K : PySem.W.Frag) : Sp := fun vs H Q _ => ∃ (a : Addr) (ws : List V) (b : Bool) (ps : List (Rat × Rat)), vs = [.ref a] ∧ H a = some (mkS ws b) ∧ Pts K H ws ps ∧ ps.length < 1000 ∧ (b = false → ps ≠ []) ∧ Rising ps ∧ (∀ p ∈ ps, BitsP 400 p) ∧
  ∀ D us H', Same H H' → H D = none → H' D = some (.lst us) → Pts K H' us (bendQ ps) → Q (.ref D) H'
theorem sc_bends : FnScope ["points", "steep", "at", "point", "found"] ["points"] (defScope s_bends) := ⟨rfl, rfl, rfl, by decide +kernel, rfl, by decide +kernel, by decide +kernel⟩
theorem ok_bends (T : Tx K mg base) : Ok P w K mg base 10 (d_bends.loc K) ["points"] (spBends K) := by
  refine mk_ok (k := 9) T.f_bends sc_bends (fun _ _ _ _ _ _ us hl => match us, hl with | [_], _ => rfl) (fun vs H Q E h => ?_) (fun cdv A outer s H vs Q E hr h => ?_)
  · obtain ⟨a, ws, b, ps, rfl, _⟩ := h
    rfl
  · obtain ⟨a, ws, b, ps, rfl, ha, hp, hlen, hb, hris, hbits, k⟩ := h
    refine ⟨_, (pss_cons (ps_set (i := 1) sc_bends.nd rfl (Or.inr rfl) (ok_call (ok_paces T) (hr.mono (by decide)) rfl T.g_paces passL (pa_cons (pv 0) pa_nil)))
      (pss_cons (ps_setLc (i := 4) (own := [("at", 2), ("point", 3)]) (g := (gTup K 2 (gCons (gName 2) (gCons (gName 3) gNil)))) (by rfl) sc_bends.nd rfl rfl (sw_true rfl rfl rfl (by decide +kernel)) (pi_enumA (by rfl) T.b_enumerate (pa_cons (pv 0) pa_nil)) (blkOk_by (own := [("at", 2), ("point", 3)]) (N := ["points", "steep", "at", "point", "found"]) (sc := defScope s_bends) (by decide +kernel)) (fun _ _ _ _ _ => (pg_tup rfl (pgs_cons (pg_name (i := 2) sc_bends.nd rfl (Or.inl rfl)) (pgs_cons (pg_name (i := 3) sc_bends.nd rfl (Or.inl rfl)) pgs_nil)))) (fun _ _ _ _ _ => (pts_one (pt_cmpR (show OpR _ _ (rNeO K _ _ _) from (op_neO T.eq_Amount (ok_Amount_eq_ T) (hr.mono (by decide)) passL)) (pe_ix (show IxR _ (rIxL K) from ix_list) (pv 1) (pv 2) (fun _ _ => rfl)) (pe_ix (show IxR _ (rIxL K) from ix_list) (pv 1) (pe_op op_add (pv 2) pe_int) (fun _ _ => rfl)) (nomark _)))) (fun _ _ _ _ _ => (pv 3)))
      (pss_one (ps_ret (pe_ifExp (pt_truth (pv 4) (by intro _; rfl)) (pv 4) (pe_lst (pa_cons (pe_tup (pa_cons (ok_makeD T.mkr_Amount (okd_Amount_init_ T) (hr.mono (by decide)) rfl T.g_Amount (passE rfl rfl rfl rfl) (pa_cons pe_int pa_nil)) (pa_cons (ok_call (ok_led T) (hr.mono (by decide)) rfl T.g_led passL (pa_cons (pv 0) (pa_cons (ok_makeD T.mkr_Amount (okd_Amount_init_ T) (hr.mono (by decide)) rfl T.g_Amount (passE rfl rfl rfl rfl) (pa_cons pe_int pa_nil)) (pa_cons pe_int (pa_cons pe_int pa_nil))))) pa_nil))) pa_nil))))))), ?_⟩
    have hl := hp.length
    refine ⟨_, rfl, a, ws, b, ps, rfl, ha, hp, hlen, hb, hris, (fun p m => ⟨(hbits p m).1.mono (by decide), (hbits p m).2.mono (by decide)⟩), fun S ss H1 s1 hS hS1 hq => ?_⟩
    have ha1 := s1 _ _ ha
    refine ⟨_, rfl, a, ws, rfl, (SqB.of ha1).or, fun J hJ D hD => ?_⟩
    obtain ⟨G, wk, hG⟩ := en_walk hJ
    have hHa : ∀ H', Same H1 H' → H' a = H1 a := fun H' s => by rw [s _ _ ha1, ha1]
    have hsz : sizeLine = 16777216 := sizeLine_eq
    refine lc_it wk (fun i H' => ∃ us, Same H1 H' ∧ H' D = some (.lst us) ∧ Pts K H' us (bendAt ps i)) ⟨[], AT.Same.up hD, upd_same, .nil⟩ (fun i H' hi ⟨us, sm, _⟩ => hG _ (hHa _ sm)) (fun i z H' H2 hi ⟨us, sm, hl1, hu⟩ hY => ?_) (fun H' ⟨us, sm, hl1, hu⟩ => ?_)
    · obtain ⟨Tp, x0, y0, rfl, hTp, rfl, e1, hy0⟩ := hY
      cases e1
      have hy0 : ws[i]? = some y0 := hy0
      have s2 := AT.Same.up (o := .tup [.int (i : Nat), y0]) hTp
      obtain ⟨p1, ep, pt1⟩ := hp.at hy0
      have np : ps ≠ [] := by rintro rfl; simp at ep
      have li : i < ps.length := (List.getElem?_eq_some_iff.mp ep).1
      have sl := steep_len np
      have ex : (steepQ ps)[i]? = some (steepQ ps)[i] := List.getElem?_eq_getElem (by omega)
      have ey : (steepQ ps)[i + 1]? = some (steepQ ps)[i + 1] := List.getElem?_eq_getElem (by omega)
      generalize (steepQ ps)[i] = x at ex
      generalize (steepQ ps)[i + 1] = y at ey
      obtain ⟨xa, exa, hxa⟩ := hq.get ex
      obtain ⟨ya, eya, hya⟩ := hq.get ey
      have s12 := sm.trans s2
      obtain ⟨dx, hxa'⟩ := hxa.up s12
      obtain ⟨dy, hya'⟩ := hya.up s12
      refine ⟨Tp, _, rfl, SqT.of upd_same, rfl, _, _, rfl, _, _, rfl, rfl, rfl, ?_⟩
      refine ⟨_, rfl, _, rfl, S, ss, _, _, rfl, rfl, SqL.of (s12 _ _ hS1), atI_nat exa, _, rfl, _, rfl, _, _, rfl, rfl, S, ss, _, _, rfl, rfl, SqL.of (s12 _ _ hS1), (by rw [show ((i : Nat) + 1 : Int) = ((i + 1 : Nat) : Int) by omega]; exact atI_nat eya), xa, dx, _, rfl, hxa', ⟨_, T.ins_Amount hya', .inl rfl⟩, xa, ya, x, y, rfl, ⟨dx, hxa'⟩, ⟨dy, hya'⟩, _, rfl, _, rfl, ?_⟩
      have st := bend_step ps ep ex ey
      have lb := bend_len ps i
      have lu := hu.length
      by_cases c : x = y
      · rw [decide_eq_true c]
        rw [if_pos c, List.append_nil] at st
        refine iteF ⟨us, s12, s2 _ _ hl1, ?_⟩
        rw [st]
        exact hu.up s2
      · rw [decide_eq_false c]
        rw [if_neg c] at st
        refine iteT ⟨_, rfl, us, s2 _ _ hl1, (by omega), us ++ [y0], AT.Same.new s12 hD, upd_same, ?_⟩
        rw [st]
        exact ((hu.up s2).app ((pt1.up s1).up s12)).set (s2 _ _ hl1)
    · rw [hl] at hu
      refine ⟨_, rfl, _, .inl ⟨us, SqL.of hl1, rfl⟩, ?_⟩
      cases hw : us.isEmpty with
      | false =>
        have ne : bendAt ps ps.length ≠ [] := by
          intro z
          rw [z] at hu
          cases hu
          simp at hw
        refine iteT ⟨_, rfl, k D us H' (s1.trans sm) (none_of s1 hD) hl1 ?_⟩
        unfold bendQ
        rw [if_neg ne]
        exact hu
      | true =>
        have e0 : us = [] := by simpa using hw
        have e1 : bendAt ps ps.length = [] := List.length_eq_zero_iff.mp (by rw [← hu.length, e0]; rfl)
        have fin : tLst (tCons (tTup (tCons (tMake (He.ga K "Amount") (spAmt K) [.int 1] E (tCons (tC (.int 0)) tNil)) (tCons (tCall (spLed K) [] E0 (tCons (tVar 0) (tCons (tMake (He.ga K "Amount") (spAmt K) [.int 1] E (tCons (tC (.int 0)) tNil)) (tCons (tC (.int 0)) (tCons (tC (.int 1)) tNil))))) tNil))) tNil) ([some (.ref a), some (.ref S), none, none, some (.ref D)] : L2.St) H' Q := by
          refine fun x dx hx hdx hne => ⟨x, dx, _, _, rfl, upd_same, .int _, .int _, .inl ⟨0, 1, rfl, rfl, by decide, by decide +kernel, rfl, ?_⟩⟩
          have sA := made_same (o1 := .ins (cA K) dx []) (o2 := .ins (cA K) dx (amtQ (Rat.divInt 0 1))) hx hdx
          have hX : IsQ K (upd (upd (upd H' dx (.own x)) x (.ins (cA K) dx [])) x (.ins (cA K) dx (amtQ (Rat.divInt 0 1)))) x (0 : Rat) := ⟨dx, by rw [upd_same, q_int]; rfl⟩
          generalize upd (upd (upd H' dx (.own x)) x (.ins (cA K) dx [])) x (.ins (cA K) dx (amtQ (Rat.divInt 0 1))) = HA at sA hX ⊢
          refine ⟨_, rfl, fun y dy hy hdy hne2 => ⟨y, dy, _, _, rfl, upd_same, .int _, .int _, .inl ⟨0, 1, rfl, rfl, by decide, by decide +kernel, rfl, ?_⟩⟩⟩
          have sB := made_same (o1 := .ins (cA K) dy []) (o2 := .ins (cA K) dy (amtQ (Rat.divInt 0 1))) hy hdy
          have hY : IsQ K (upd (upd (upd HA dy (.own y)) y (.ins (cA K) dy [])) y (.ins (cA K) dy (amtQ (Rat.divInt 0 1)))) y (0 : Rat) := ⟨dy, by rw [upd_same, q_int]; rfl⟩
          generalize upd (upd (upd HA dy (.own y)) y (.ins (cA K) dy [])) y (.ins (cA K) dy (amtQ (Rat.divInt 0 1))) = HB at sB hY ⊢
          have s0B : Same H HB := ((s1.trans sm).trans sA).trans sB
          refine ⟨a, ws, b, ps, y, 0, false, true, rfl, s0B _ _ ha, hp.up s0B, hlen, hris, hbits, hY, ⟨(by decide +kernel), (by decide +kernel)⟩, fun r H3 s3 hR => ?_⟩
          refine ⟨(by show 2 ≤ sizeLine; decide), fun t ht => ⟨(by show 1 ≤ sizeLine; decide), fun L hL => ?_⟩⟩
          have sC := AT.Same.up (o := .tup [.ref x, .ref r]) ht
          have sD := AT.Same.up (o := .lst [.ref t]) hL
          refine k L [.ref t] _ ((s0B.trans s3).trans (sC.trans sD)) (none_of ((s0B.trans s3).trans sC) hL) upd_same ?_
          unfold bendQ
          rw [if_pos e1]
          refine .cons ⟨t, x, r, rfl, sD _ _ upd_same, ((hX.up sB).up s3).up (sC.trans sD), hR.up (sC.trans sD)⟩ .nil
        exact iteF fin
/-! ### the map -/
abbrev cM (K : PySem.W.Frag) : Addr := He.ga K "TempoMap"
/-- at m stands a map with the points ps -/
def IsMap (K : PySem.W.Frag) (H : Hp) (m : Addr) (ps : List (Rat × Rat)) : Prop := ∃ dx t ws, H m = some (.ins (cM K) dx [("own_points", .ref t)]) ∧ H t = some (.tup ws) ∧ Pts K H ws ps
theorem IsMap.up {H H' : Hp} {m : Addr} {ps : List (Rat × Rat)} (h : IsMap K H m ps) (s : Same H H') : IsMap K H' m ps := by
  obtain ⟨dx, t, ws, h1, h2, h3⟩ := h
  exact ⟨dx, t, ws, s _ _ h1, s _ _ h2, h3.up s⟩
def spPoints (K : PySem.W.Frag) : Sp := fun vs H Q _ => ∃ m ps, vs = [.ref m] ∧ IsMap K H m ps ∧ ∀ D us H', Same H H' → H D = none → H' D = some (.lst us) → Pts K H' us ps → Q (.ref D) H'
theorem sc_TempoMap_points : FnScope ["self"] ["self"] (defScope s_TempoMap_points) := ⟨rfl, rfl, rfl, by decide +kernel, rfl, by decide +kernel, by decide +kernel⟩
theorem ok_TempoMap_points (T : Tx K mg base) : Ok P w K mg base 1 (d_TempoMap_points.loc K) ["self"] (spPoints K) := by
  refine mk_ok (k := 0) T.f_TempoMap_points sc_TempoMap_points (fun _ _ _ _ _ _ us hl => match us, hl with | [_], _ => rfl) (fun vs H Q E h => ?_) (fun cdv A outer s H vs Q E hr h => ?_)
  · obtain ⟨m, ps, rfl, _⟩ := h
    rfl
  · obtain ⟨m, ps, rfl, ⟨dx, t, ws, h1, h2, h3⟩, k⟩ := h
    refine ⟨_, (pss_one (ps_ret (pe_callTy call_list_of (by rfl) T.b_list (by decide +kernel) (pa_cons (pe_fld (pv 0) rfl) pa_nil)))), ?_⟩
    refine ⟨_, rfl, m, _, dx, _, _, rfl, h1, T.cls_TempoMap, T.no_TempoMap_own_points, rfl, t, ws, rfl, .inr (SqT.of h2), fun D hD => ?_⟩
    exact k D ws _ (AT.Same.up hD) hD upd_same (h3.up (AT.Same.up hD))
end
end K09

set_option maxHeartbeats 4000000
namespace K09
open PySem PySem.Spec PyProof.Rows L2 AT
section
variable {P : Program} {w : World} {K : PySem.W.Frag} {mg : Str → Option Value} {base : Heap}
theorem Pts.setI {H : Hp} {vs : List V} {ps : List (Rat × Rat)} {m C dx : Addr} {o : HO} (h : Pts K H vs ps) (hm : H m = some (.ins C dx [])) : Pts K (upd H m o) vs ps := by
  induction h with
  | nil => exact .nil
  | cons a b ih =>
    refine .cons ?_ ih
    obtain ⟨t, x, y, e, h1, ⟨d2, h2⟩, ⟨d3, h3⟩⟩ := a
    have n1 : t ≠ m := by rintro rfl; rw [h1] at hm; cases hm
    have n2 : x ≠ m := by rintro rfl; rw [h2] at hm; cases hm
    have n3 : y ≠ m := by rintro rfl; rw [h3] at hm; cases hm
    exact ⟨t, x, y, e, by rw [upd_ne n1]; exact h1, ⟨d2, by rw [upd_ne n2]; exact h2⟩, ⟨d3, by rw [upd_ne n3]; exact h3⟩⟩
/-- how the making of a map of the items xs ends -/
def MapEnd (K : PySem.W.Frag) (H : Hp) (m : Addr) (xs : List V) (ps : List (Rat × Rat)) (Q : VK) (E : XK) : Prop :=
  (ps.length = xs.length ∧ ∀ H' : Hp, (∀ b o, b ≠ m → H b = some o → H' b = some o) → IsMap K H' m (bendQ ps) → Q .non H') ∨
  (∃ v, xs[ps.length]? = some v ∧ NoItem K H v ∧ Rf K "InvalidPoint" "value" v H E) ∨
  (∃ v p q, xs[ps.length]? = some v ∧ Item K H v q ∧ BitsP 3000 q ∧ ps.getLast? = some p ∧ ¬ Below p q ∧ Rf K "Falling" "index" (.int (ps.length : Nat)) H E)
def spMap (K : PySem.W.Frag) : Sp := fun vs H Q E => ∃ m dx v, vs = [.ref m, v] ∧ H m = some (.ins (cM K) dx []) ∧ AnyV K H v ∧ (((¬ ∃ xs, Sq H v xs) ∧ Rf K "InvalidPart" "value" v H E) ∨
  ∃ xs ps, Sq H v xs ∧ xs.length < 1000 ∧ (∀ (i : Nat) (p : Rat × Rat), ps[i]? = some p → BitsP 400 p ∧ ∃ x, xs[i]? = some x ∧ Item K H x p) ∧ Rising ps ∧ MapEnd K H m xs ps Q E)
theorem sc_TempoMap_init_ : FnScope ["self", "points"] ["self", "points"] (defScope s_TempoMap_init_) := ⟨rfl, rfl, rfl, by decide +kernel, rfl, by decide +kernel, by decide +kernel⟩
theorem both_TempoMap (T : Tx K mg base) : Ok P w K mg base 12 (He.ma K (He.ga K "TempoMap") "__init__") ["self", "points"] (spMap K) ∧ OkD P w K mg base 12 (He.ma K (He.ga K "TempoMap") "__init__") ["self", "points"] [.ref (dflA (fun K => He.ma K (He.ga K "TempoMap") "__init__") 0 K)] (spMap K) := by
  refine mk_okD1 (k := 11) (n := 1) T.f_TempoMap_init_ sc_TempoMap_init_ rfl (fun _ _ _ _ _ _ _ us u hl => match us, hl with | [_], _ => ⟨_, rfl, rfl⟩) (fun _ _ _ _ _ _ _ us u hl => match us, hl with | [_, _], _ => ⟨_, rfl, rfl⟩) (fun vs H Q E h => ?_) (fun cdv A outer s H vs Q E hr h => ?_)
  · obtain ⟨m, dx, v, rfl, _⟩ := h
    rfl
  · obtain ⟨m, dx, v, rfl, hm, hv, hc⟩ := h
    refine ⟨_, (pss_one (ps_fld (pv 0) (pe_callTy call_tuple_of (by rfl) T.b_tuple (by decide +kernel) (pa_cons (ok_call (ok_bends T) (hr.mono (by decide)) rfl T.g_bends passL (pa_cons (ok_call (ok_checked_points T) (hr.mono (by decide)) rfl T.g_checked_points (passE rfl rfl rfl rfl) (pa_cons (pv 1) pa_nil)) pa_nil)) pa_nil)) rfl)), ?_⟩
    refine ⟨_, rfl, v, rfl, hv, ?_⟩
    rcases hc with ⟨hn, k⟩ | ⟨xs, ps, hx, hlen, hps, hris, hend⟩
    · exact .inl ⟨hn, k⟩
    · refine .inr ⟨xs, ps, hx, hlen, (fun i p e => ⟨⟨(hps i p e).1.1.mono (by decide), (hps i p e).1.2.mono (by decide)⟩, (hps i p e).2⟩), hris, ?_⟩
      rcases hend with ⟨e, k⟩ | z | z
      · refine .inl ⟨e, fun D us H1 s1 hD hl hp => ?_⟩
        have hbits : ∀ p ∈ ps, BitsP 400 p := fun p hm => by
          obtain ⟨i, hi⟩ := List.getElem?_of_mem hm
          exact (hps i p hi).1
        refine ⟨D, us, true, ps, rfl, hl, hp, (by omega), (fun z => nomatch z), hris, hbits, fun D2 us2 H2 s2 hD2 hl2 hp2 => ?_⟩
        refine ⟨D2, us2, rfl, .inl ⟨SqL.of hl2, fun t ht => ?_⟩⟩
        have s3 := AT.Same.up (o := .tup us2) ht
        have s03 := (s1.trans s2).trans s3
        refine ⟨_, rfl, m, _, dx, _, rfl, s03 _ _ hm, T.cls_TempoMap, T.no_TempoMap_own_points, (by decide), ?_⟩
        refine k _ (fun b o hb e => by rw [upd_ne hb]; exact s03 _ _ e) ⟨dx, t, us2, upd_same, ?_, ?_⟩
        · rw [upd_ne (by rintro rfl; rw [(s1.trans s2) _ _ hm] at ht; cases ht)]
          exact upd_same
        · exact (hp2.up s3).setI (s03 _ _ hm)
      · exact .inr (.inl z)
      · exact .inr (.inr z)
theorem ok_TempoMap_init_ (T : Tx K mg base) : Ok P w K mg base 12 (He.ma K (He.ga K "TempoMap") "__init__") ["self", "points"] (spMap K) := (both_TempoMap T).1
end
end K09

set_option maxHeartbeats 4000000
namespace K09
open PySem PySem.Spec PyProof.Rows L2 AT
/-! ### the walk's words and the plain law's -/
theorem ris_of : ∀ {ps : List (Rat × Rat)}, Rising ps → PL.Ris ps
  | [], _ => trivial
  | [_], _ => trivial
  | _ :: _ :: _, h => ⟨h.1, ris_of h.2⟩
theorem rising_of : ∀ {ps : List (Rat × Rat)}, PL.Ris ps → Rising ps
  | [], _ => trivial
  | [_], _ => trivial
  | _ :: _ :: _, h => ⟨h.1, rising_of h.2⟩
theorem ahead_cons (p : Rat × Rat) (r : List (Rat × Rat)) (v : Rat) (n : Nat) : aheadQ (p :: r) false v (n + 1) = (if p.1 ≤ v then [0] else []) ++ (aheadQ r false v n).map (· + 1) := by
  unfold aheadQ
  rw [List.range_succ_eq_map, List.filter_cons, List.filter_map]
  by_cases c : p.1 ≤ v
  · rw [if_pos (by simpa [crd] using c), if_pos c]
    exact congrArg (fun z => 0 :: List.map (· + 1) z) (List.filter_congr fun i _ => by rfl)
  · rw [if_neg (by simpa [crd] using c), if_neg c]
    exact congrArg (fun z => List.map (· + 1) z) (List.filter_congr fun i _ => by rfl)
theorem ahead_none : ∀ {r : List (Rat × Rat)} {v : Rat}, (∀ q ∈ r, ¬ q.1 ≤ v) → aheadQ r false v r.length = []
  | [], _, _ => rfl
  | p :: r, v, h => by
    rw [List.length_cons, ahead_cons, if_neg (h p (by simp)), ahead_none fun q hq => h q (List.mem_cons_of_mem _ hq)]
    rfl
/-- behind the last point that is not above v -/
def atQ (ps : List (Rat × Rat)) (v : Rat) (o : Option Nat) : Option Rat := match o with
  | none => none
  | some l => match ps[l]?, ps[l + 1]? with
    | some p, none => some (p.2 + (v - p.1))
    | some p, some q => some (p.2 + (v - p.1) / (q.1 - p.1) * (q.2 - p.2))
    | _, _ => none
theorem ahead_go : ∀ {r : List (Rat × Rat)} {p : Rat × Rat} {v : Rat}, PL.Ris (p :: r) → p.1 ≤ v → ∃ l, (aheadQ (p :: r) false v (r.length + 1)).getLast? = some l ∧ atQ (p :: r) v (some l) = some (PL.goQ p r v)
  | [], p, v, _, h => ⟨0, by rw [ahead_cons, if_pos h]; rfl, rfl⟩
  | q :: r, p, v, hr, h => by
    by_cases c : v < q.1
    · refine ⟨0, ?_, ?_⟩
      · have hn : aheadQ (q :: r) false v (q :: r).length = [] := ahead_none fun z hz => by
          rcases List.mem_cons.mp hz with rfl | hz
          · grind
          · have := (hr.2.all z hz).1
            grind
        rw [ahead_cons, if_pos h, hn]
        rfl
      · show some _ = some (if v < q.1 then _ else _)
        rw [if_pos c]
    · obtain ⟨l, h1, h2⟩ := ahead_go (r := r) (p := q) (v := v) hr.2 (by grind)
      refine ⟨l + 1, ?_, ?_⟩
      · rw [ahead_cons]
        have h1' : (aheadQ (q :: r) false v (q :: r).length).getLast? = some l := h1
        rw [List.getLast?_append, List.getLast?_map, h1']
        rfl
      · have e : PL.goQ p (q :: r) v = PL.goQ q r v := by
          show (if v < q.1 then _ else _) = _
          rw [if_neg c]
        rw [e, ← h2]
        unfold atQ
        simp
theorem led_eq {ps : List (Rat × Rat)} (hr : Rising ps) (v : Rat) : ledQ ps v false true = PL.ledR ps v := by
  cases ps with
  | nil => rfl
  | cons p r =>
    have hr' := ris_of hr
    unfold ledQ
    show (match (aheadQ (p :: r) false v (r.length + 1)).getLast? with | none => _ | some l => _) = if v < p.1 then _ else _
    by_cases c : v < p.1
    · rw [if_pos c]
      have hn : aheadQ (p :: r) false v (p :: r).length = [] := ahead_none fun z hz => by
        rcases List.mem_cons.mp hz with rfl | hz
        · grind
        · have := (hr'.all z hz).1
          grind
      have hn' : aheadQ (p :: r) false v (r.length + 1) = [] := hn
      rw [hn']
      rfl
    · rw [if_neg c]
      obtain ⟨l, h1, h2⟩ := ahead_go hr' (show p.1 ≤ v by grind)
      rw [h1]
      unfold atQ at h2
      dsimp only at h2 ⊢
      split at h2
      · rename_i a b e1 e2
        first
          | (rw [e1, e2]; exact Option.some.inj h2)
          | exact Option.some.inj h2
      · rename_i a b e1 e2
        first
          | (rw [e1, e2]; exact Option.some.inj h2)
          | exact Option.some.inj h2
      · cases h2
/-- the slopes with another one ahead -/
def steepM (m : Rat) (ps : List (Rat × Rat)) : List Rat := [m] ++ slopes ps ++ [1]
theorem steep_one (m : Rat) (p : Rat × Rat) : steepM m [p] = [m, 1] := rfl
theorem steep_two (m : Rat) (p q : Rat × Rat) (r : List (Rat × Rat)) : steepM m (p :: q :: r) = m :: steepM (PL.slp p q) (q :: r) := rfl
def bendM (m : Rat) (ps : List (Rat × Rat)) (n : Nat) : List (Rat × Rat) := (List.range n).filterMap fun i => if (steepM m ps)[i]? ≠ (steepM m ps)[i + 1]? then ps[i]? else none
theorem bend_rec : ∀ (r : List (Rat × Rat)) (p : Rat × Rat) (m : Rat), bendM m (p :: r) (r.length + 1) = PL.bendR m (p :: r)
  | [], p, m => by
    unfold bendM
    rw [steep_one]
    by_cases c : m = 1
    · rw [PL.bend_eq (by exact c), c]
      simp [PL.bendR]
    · rw [PL.bend_ne (by exact c)]
      simp [PL.bendR, c]
  | q :: r, p, m => by
    have ih := bend_rec r q (PL.slp p q)
    have e : bendM m (p :: q :: r) ((q :: r).length + 1) = (if m = PL.slp p q then [] else [p]) ++ bendM (PL.slp p q) (q :: r) (r.length + 1) := by
      unfold bendM
      rw [List.range_succ_eq_map, List.filterMap_cons, List.filterMap_map]
      have e2 : ((fun i => if (steepM m (p :: q :: r))[i]? ≠ (steepM m (p :: q :: r))[i + 1]? then (p :: q :: r)[i]? else none) ∘ Nat.succ) = (fun i => if (steepM (PL.slp p q) (q :: r))[i]? ≠ (steepM (PL.slp p q) (q :: r))[i + 1]? then (q :: r)[i]? else none) := by
        funext i
        show (if (steepM m (p :: q :: r))[i + 1]? ≠ (steepM m (p :: q :: r))[i + 1 + 1]? then (p :: q :: r)[i + 1]? else none) = _
        rw [steep_two, List.getElem?_cons_succ, List.getElem?_cons_succ, List.getElem?_cons_succ]
      rw [e2]
      have e3 : (steepM m (p :: q :: r))[0 + 1]? = some (PL.slp p q) := by
        rw [steep_two]
        cases r <;> rfl
      rw [e3]
      have e4 : (steepM m (p :: q :: r))[0]? = some m := rfl
      rw [e4]
      by_cases c : m = PL.slp p q
      · simp [c]
      · simp [c]
    rw [e, ih]
    by_cases c : m = PL.slp p q
    · rw [if_pos c]
      exact (PL.bend_eq (r := q :: r) (by exact c)).symm
    · rw [if_neg c]
      exact (PL.bend_ne (r := q :: r) (by exact c)).symm
theorem bend_at (ps : List (Rat × Rat)) : bendAt ps ps.length = PL.bendR 1 ps := by
  cases ps with
  | nil => rfl
  | cons p r => exact bend_rec r p 1
theorem bend_full {ps : List (Rat × Rat)} (hr : Rising ps) : bendQ ps = PL.bendF ps := by
  unfold bendQ PL.bendF
  rw [bend_at, led_eq hr]
def cntQ (ps : List (Rat × Rat)) (x : Rat) : Nat := (ps.filter fun p => decide (p.1 ≤ x)).length
theorem cnt_none {r : List (Rat × Rat)} {x : Rat} (h : ∀ q ∈ r, ¬ q.1 ≤ x) : cntQ r x = 0 := by
  unfold cntQ
  rw [List.length_eq_zero_iff, List.filter_eq_nil_iff]
  intro q hq
  simpa using h q hq
theorem pace_rec : ∀ (r : List (Rat × Rat)) (p : Rat × Rat) (m x : Rat), PL.Ris (p :: r) → (steepM m (p :: r))[cntQ (p :: r) x]? = some (PL.paceR m (p :: r) x)
  | [], p, m, x, _ => by
    rw [steep_one]
    unfold cntQ
    by_cases c : p.1 ≤ x
    · simp [c, PL.paceR, PL.outS]
    · simp [c, PL.paceR]
  | q :: r, p, m, x, hr => by
    have ih := pace_rec r q (PL.slp p q) x hr.2
    rw [steep_two]
    show _ = some (if p.1 ≤ x then PL.paceR (PL.slp p q) (q :: r) x else m)
    by_cases c : p.1 ≤ x
    · have e : cntQ (p :: q :: r) x = cntQ (q :: r) x + 1 := by
        unfold cntQ
        rw [List.filter_cons, if_pos (by simpa using c)]
        rfl
      rw [e, if_pos c, List.getElem?_cons_succ, ih]
    · have e : cntQ (p :: q :: r) x = 0 := cnt_none fun z hz => by
        rcases List.mem_cons.mp hz with rfl | hz
        · exact c
        · have := (hr.all z hz).1
          grind
      rw [e, if_neg c]
      rfl
theorem pace_at {ps : List (Rat × Rat)} (hr : Rising ps) (hn : ps ≠ []) (x : Rat) : (steepQ ps)[cntQ ps x]? = some (PL.paceR 1 ps x) := by
  cases ps with
  | nil => exact absurd rfl hn
  | cons p r => exact pace_rec r p 1 x (ris_of hr)
theorem pace_empty (x : Rat) : (steepQ [])[cntQ [] x]? = some (PL.paceR 1 [] x) := rfl
end K09

set_option maxHeartbeats 4000000
namespace K09
open PySem PySem.Spec PyProof.Rows L2 AT
section
variable {P : Program} {w : World} {K : PySem.W.Frag} {mg : Str → Option Value} {base : Heap}
/-- points that a map may have -/
def FineM (bs : List (Rat × Rat)) : Prop := Rising bs ∧ (∀ p ∈ bs, BitsP 400 p) ∧ bs.length < 1000 ∧ bs ≠ []
def spAsk (K : PySem.W.Frag) (f : List (Rat × Rat) → Rat → Rat) : Sp := fun vs H Q E => ∃ m bs v, vs = [.ref m, v] ∧ IsMap K H m bs ∧ FineM bs ∧ AnyV K H v ∧ ((∃ x, Qv K H v x ∧ Bits 400 x ∧ ∀ r H', Same H H' → IsQ K H' r (f bs x) → Q (.ref r) H') ∨ (wholeV v = false ∧ ¬ isA K H v ∧ Rf K "InvalidAmount" "value" v H E))
theorem sc_TempoMap_call_ : FnScope ["self", "beat"] ["self", "beat"] (defScope s_TempoMap_call_) := ⟨rfl, rfl, rfl, by decide +kernel, rfl, by decide +kernel, by decide +kernel⟩
theorem ok_TempoMap_call_ (T : Tx K mg base) : Ok P w K mg base 10 (d_TempoMap_call_.loc K) ["self", "beat"] (spAsk K PL.ledR) := by
  refine mk_ok (k := 9) T.f_TempoMap_call_ sc_TempoMap_call_ (fun _ _ _ _ _ _ us hl => match us, hl with | [_, _], _ => rfl) (fun vs H Q E h => ?_) (fun cdv A outer s H vs Q E hr h => ?_)
  · obtain ⟨m, bs, v, rfl, _⟩ := h
    rfl
  · obtain ⟨m, bs, v, rfl, ⟨dx, t, ws, h1, h2, h3⟩, ⟨f1, f2, f3, f4⟩, hv, hc⟩ := h
    refine ⟨_, (pss_one (ps_ret (ok_call (ok_led T) (hr.mono (by decide)) rfl T.g_led passL (pa_cons (pe_fld (pv 0) rfl) (pa_cons (ok_call (ok_amount_from T) (hr.mono (by decide)) rfl T.g_amount_from (passE rfl rfl rfl rfl) (pa_cons (pv 1) pa_nil)) (pa_cons pe_int (pa_cons pe_int pa_nil))))))), ?_⟩
    refine ⟨_, rfl, m, _, dx, _, _, rfl, h1, T.cls_TempoMap, T.no_TempoMap_own_points, rfl, _, rfl, v, rfl, hv, ?_⟩
    rcases hc with ⟨x, hx, bx, k⟩ | z
    · refine .inl ⟨x, hx, fun p H1 s1 hq => ?_⟩
      refine ⟨t, ws, false, bs, p, x, false, true, rfl, s1 _ _ h2, h3.up s1, f3, f1, f2, hq, bx, fun r H2 s2 hr2 => ?_⟩
      rw [led_eq f1] at hr2
      exact k r H2 (s1.trans s2) hr2
    · exact .inr z
theorem sc_TempoMap_pace : FnScope ["self", "beat", "place", "point", "many"] ["self", "beat"] (defScope s_TempoMap_pace) := ⟨rfl, rfl, rfl, by decide +kernel, rfl, by decide +kernel, by decide +kernel⟩
theorem ok_TempoMap_pace (T : Tx K mg base) : Ok P w K mg base 10 (d_TempoMap_pace.loc K) ["self", "beat"] (spAsk K (PL.paceR 1)) := by
  refine mk_ok (k := 9) T.f_TempoMap_pace sc_TempoMap_pace (fun _ _ _ _ _ _ us hl => match us, hl with | [_, _], _ => rfl) (fun vs H Q E h => ?_) (fun cdv A outer s H vs Q E hr h => ?_)
  · obtain ⟨m, bs, v, rfl, _⟩ := h
    rfl
  · obtain ⟨m, bs, v, rfl, ⟨dx, t, ws, h1, h2, h3⟩, ⟨f1, f2, f3, f4⟩, hv, hc⟩ := h
    refine ⟨_, (pss_cons (ps_set (i := 2) sc_TempoMap_pace.nd rfl (Or.inr rfl) (ok_call (ok_amount_from T) (hr.mono (by decide)) rfl T.g_amount_from (passE rfl rfl rfl rfl) (pa_cons (pv 1) pa_nil)))
      (pss_cons (ps_set (i := 4) sc_TempoMap_pace.nd rfl (Or.inl rfl) (pe_callB call_len_seq (by rfl) T.b_len (by decide +kernel) (pa_cons (pe_lc (own := [("point", 3)]) (g := (gName 3)) (by rfl) sc_TempoMap_pace.nd (pi_tup (pe_fld (pv 0) rfl)) (blkOk_by (own := [("point", 3)]) (N := ["self", "beat", "place", "point", "many"]) (sc := defScope s_TempoMap_pace) (by decide +kernel)) (fun _ _ _ _ _ => (pg_name (i := 3) sc_TempoMap_pace.nd rfl (Or.inl rfl))) (fun _ _ _ _ _ => (pts_one (pt_cmpR op_le (ok_meth T.cls_Amount T.m_Amount_compare (ok_Amount_compare T) (hr.mono (by decide)) passL (pe_ix (show IxR _ (rIxT K) from ix_tup) (pv 3) pe_int (fun _ _ => rfl)) (pa_cons (pv 2) pa_nil)) pe_int (nomark _)))) (fun _ _ _ _ _ => (pv 3))) pa_nil)))
      (pss_one (ps_ret (pe_ix ix_list (ok_call (ok_paces T) (hr.mono (by decide)) rfl T.g_paces passL (pa_cons (pe_fld (pv 0) rfl) pa_nil)) (pv 4) (fun _ _ => rfl)))))), ?_⟩
    refine ⟨_, rfl, v, rfl, hv, ?_⟩
    rcases hc with ⟨x, hx, bx, k⟩ | z
    · refine .inl ⟨x, hx, fun p H1 s1 hq => ?_⟩
      refine ⟨_, rfl, m, _, dx, _, _, rfl, s1 _ _ h1, T.cls_TempoMap, T.no_TempoMap_own_points, rfl, t, rfl, ⟨_, SqT.of (s1 _ _ h2)⟩, fun D hD => ?_⟩
      have up : ∀ {q : Rat}, Bits 400 q → Bits 3000 q := fun h => h.mono (by decide)
      have hsz : sizeLine = 16777216 := sizeLine_eq
      have hl := h3.length
      refine lc_tup (K := K) (a := t) (xs := ws) (fun i H' => Same H1 H' ∧ ∃ acc, H' D = some (.lst acc) ∧ acc.length = cntQ (bs.take i) x) ⟨AT.Same.up hD, [], upd_same, rfl⟩ (fun i H' _ hP => SqT.of (hP.1 _ _ (s1 _ _ h2))) (fun i z H' hz hP => ?_) (fun H' hP => ?_)
      · obtain ⟨sm, acc, hacc, hcnt⟩ := hP
        obtain ⟨q, eq, pt⟩ := h3.at hz
        obtain ⟨tt, a, b, rfl, htt, hqa, hqb⟩ := pt.up (s1.trans sm)
        obtain ⟨da, hda⟩ := id hqa
        have st : cntQ (bs.take (i + 1)) x = cntQ (bs.take i) x + (if q.1 ≤ x then 1 else 0) := by
          unfold cntQ
          rw [List.take_succ, eq, List.filter_append]
          by_cases c : q.1 ≤ x <;> simp [c]
        have hle : cntQ (bs.take i) x ≤ i := by
          unfold cntQ
          exact Nat.le_trans (List.length_filter_le _ _) (by rw [List.length_take]; omega)
        have hi : i < ws.length := (List.getElem?_eq_some_iff.mp hz).1
        refine ⟨rfl, ?_⟩
        refine ⟨_, rfl, tt, _, 0, _, rfl, rfl, SqT.of htt, rfl, a, da, _, rfl, hda, rfl, _, rfl, a, .ref p, _, rfl, hqa, up (f2 _ (List.mem_of_getElem? eq)).1, .amt (hq.up sm), .inl ⟨x, .obj (hq.up sm), up bx, fun H3 s3 => ?_⟩⟩
        refine ⟨_, _, rfl, rfl, _, rfl, ?_⟩
        rw [cmp_le]
        by_cases c : q.1 ≤ x
        · rw [decide_eq_true c]
          rw [if_pos c] at st
          exact iteT ⟨_, rfl, acc, s3 _ _ hacc, (by omega), AT.Same.new (sm.trans s3) hD, _, upd_same, by rw [List.length_append, hcnt, st]; rfl⟩
        · rw [decide_eq_false c]
          rw [if_neg c] at st
          exact iteF ⟨sm.trans s3, acc, s3 _ _ hacc, by rw [hcnt, st]; rfl⟩
      · obtain ⟨sm, acc, hacc, hcnt⟩ := hP
        rw [hl, List.take_length] at hcnt
        have sH := s1.trans sm
        refine ⟨D, acc, rfl, .inl (SqL.of hacc), ?_⟩
        refine ⟨_, rfl, m, _, dx, _, _, rfl, sH _ _ h1, T.cls_TempoMap, T.no_TempoMap_own_points, rfl, t, ws, false, bs, rfl, sH _ _ h2, h3.up sH, f3, (fun _ => f4), f1, (fun p hp => ⟨(f2 p hp).1.mono (by decide), (f2 p hp).2.mono (by decide)⟩), fun D2 us H5 s5 hD2 hl2 hqs => ?_⟩
        obtain ⟨y, hy, hqy⟩ := hqs.get (pace_at f1 f4 x)
        refine ⟨_, rfl, D2, us, _, _, rfl, rfl, SqL.of hl2, (by rw [hcnt]; exact atI_nat hy), k y H5 (sH.trans s5) hqy⟩
    · exact .inr z
/-! ### == -/
def QEq (K : PySem.W.Frag) (p q : Addr) (H : Hp) (b : Bool) : Prop := ∃ x y, IsQ K H p x ∧ IsQ K H q y ∧ b = decide (x = y)
theorem eqB_pts {X : Cx} (T : Tx X.K X.mg X.base) : EqB X 3 (CTuH (CIns (cA X.K) (QEq X.K))) := by
  refine eqB_tuH (eqB_ins T.eq_Amount (ok_Amount_eq_ T) (E := E0) passL (fun p q H b h => ?_) fun p H b h => ?_) (fun x H b h => ?_)
  · obtain ⟨x, y, h1, h2, rfl⟩ := h
    exact ⟨p, q, x, y, rfl, h1, h2, rfl, rfl⟩
  · obtain ⟨x, y, h1, h2, rfl⟩ := h
    exact decide_eq_true (h1.inj h2)
  · obtain ⟨p, q, _, _, _, _, e1, e2, _, _, x, y, h1, h2, rfl⟩ := h
    rw [e1] at e2
    cases e2
    exact decide_eq_true (h1.inj h2)
theorem pt_cmp {H : Hp} {v v' : V} {p q : Rat × Rat} (h : Pt K H v p) (g : Pt K H v' q) : CTuH (CIns (cA K) (QEq K)) v v' H (decide (p = q)) := by
  obtain ⟨t, x, y, rfl, ht, hx, hy⟩ := h
  obtain ⟨t', x', y', rfl, ht', hx', hy'⟩ := g
  obtain ⟨d1, e1⟩ := id hx
  obtain ⟨d2, e2⟩ := id hy
  obtain ⟨d3, e3⟩ := id hx'
  obtain ⟨d4, e4⟩ := id hy'
  refine ⟨t, t', _, _, fun i => if i = 0 then decide (p.1 = q.1) else decide (p.2 = q.2), rfl, rfl, ht, ht', fun i a b h1 h2 => ?_, ?_⟩
  · match i, h1, h2 with
    | 0, h1, h2 =>
      simp at h1 h2
      subst h1 h2
      exact ⟨x, x', _, _, _, _, rfl, rfl, e1, e3, _, _, hx, hx', rfl⟩
    | 1, h1, h2 =>
      simp at h1 h2
      subst h1 h2
      exact ⟨y, y', _, _, _, _, rfl, rfl, e2, e4, _, _, hy, hy', rfl⟩
    | i + 2, h1, h2 => simp at h1
  · obtain ⟨p1, p2⟩ := p
    obtain ⟨q1, q2⟩ := q
    show _ = ((decide (p1 = q1) && (decide (p2 = q2) && true)) && true)
    by_cases c1 : p1 = q1 <;> by_cases c2 : p2 = q2 <;> simp [c1, c2]
theorem pts_cmp {H : Hp} {t t' : Addr} {ws ws' : List V} {ps qs : List (Rat × Rat)} (ht : H t = some (.tup ws)) (ht' : H t' = some (.tup ws')) (h : Pts K H ws ps) (g : Pts K H ws' qs) : CTuH (CTuH (CIns (cA K) (QEq K))) (.ref t) (.ref t') H (decide (ps = qs)) := by
  have l1 := h.length
  have l2 := g.length
  refine ⟨t, t', ws, ws', fun i => decide (ps[i]? = qs[i]?), rfl, rfl, ht, ht', fun i a b h1 h2 => ?_, ?_⟩
  · obtain ⟨p, e1, p1⟩ := h.at h1
    obtain ⟨q, e2, p2⟩ := g.at h2
    have e : decide (ps[i]? = qs[i]?) = decide (p = q) := by rw [e1, e2]; simp
    show CTuH (CIns (cA K) (QEq K)) a b H (decide (ps[i]? = qs[i]?))
    rw [e]
    exact pt_cmp p1 p2
  · rw [l1, l2]
    by_cases c : ps = qs
    · subst c
      simp
    · rw [decide_eq_false c]
      symm
      rw [Bool.and_eq_false_iff]
      by_cases cl : ps.length = qs.length
      · left
        rw [List.all_eq_false]
        apply Classical.byContradiction
        intro hn
        apply c
        refine List.ext_getElem? fun i => ?_
        by_cases hi : i < ps.length
        · apply Classical.byContradiction
          intro hne
          exact hn ⟨i, by rw [List.mem_range]; omega, by simpa using hne⟩
        · rw [List.getElem?_eq_none (by omega), List.getElem?_eq_none (by omega)]
      · right
        simpa using cl
def spEqM (K : PySem.W.Frag) : Sp := fun vs H Q _ => ∃ m v bs, vs = [.ref m, v] ∧ IsMap K H m bs ∧ ((∃ m' bs', v = .ref m' ∧ IsMap K H m' bs' ∧ Q (.bl (decide (bs = bs'))) H) ∨ (∃ a xs, v = .ref a ∧ H a = some (.lst xs) ∧ Q (.bl false) H))
theorem sc_TempoMap_eq_ : FnScope ["self", "other"] ["self", "other"] (defScope s_TempoMap_eq_) := ⟨rfl, rfl, rfl, by decide +kernel, rfl, by decide +kernel, by decide +kernel⟩
theorem ok_TempoMap_eq_ (T : Tx K mg base) : Ok P w K mg base 6 (d_TempoMap_eq_.loc K) ["self", "other"] (spEqM K) := by
  refine mk_ok (k := 5) T.f_TempoMap_eq_ sc_TempoMap_eq_ (fun _ _ _ _ _ _ us hl => match us, hl with | [_, _], _ => rfl) (fun vs H Q E h => ?_) (fun cdv A outer s H vs Q E hr h => ?_)
  · obtain ⟨m, v, bs, rfl, _⟩ := h
    rfl
  · obtain ⟨m, v, bs, rfl, ⟨dx, t, ws, h1, h2, h3⟩, hc⟩ := h
    refine ⟨_, (pss_one (ps_ret (pe_and (pe_callB call_isi (by rfl) T.b_isinstance (by decide +kernel) (pa_cons (pv 1) (pa_cons (pe_gr T.g_TempoMap) pa_nil))) (pe_one (pe_cmpR (op_eqB (rcB_tuH (eqB_pts T)) (hr.mono (by decide))) (pe_fld (pv 0) rfl) (pe_fld (pv 1) rfl) (nomark _)))))), ?_⟩
    rcases hc with ⟨m', bs', rfl, ⟨dx', t', ws', g1, g2, g3⟩, k⟩ | ⟨a, xs, rfl, ha, k⟩
    · refine ⟨_, rfl, _, _, _, _, _, rfl, .own _, T.ins_TempoMap g1, T.k_TempoMap_TempoMap, _, rfl, iteT ?_⟩
      exact ⟨_, rfl, m, _, dx, _, _, rfl, h1, T.cls_TempoMap, T.no_TempoMap_own_points, rfl, _, rfl, m', _, dx', _, _, rfl, g1, T.cls_TempoMap, T.no_TempoMap_own_points, rfl, _, pts_cmp h2 g2 h3 g3, k⟩
    · exact ⟨_, rfl, _, _, _, _, _, rfl, .own _, .base (.lst ha), T.k_list_TempoMap, _, rfl, iteF k⟩
end
end K09

set_option maxHeartbeats 4000000
namespace K09
open PySem PySem.Spec PyProof.Rows L2 AT
section
variable {P : Program} {w : World} {K : PySem.W.Frag} {mg : Str → Option Value} {base : Heap}
/-! ### maps made without points -/
abbrev dflP (K : PySem.W.Frag) : Addr := dflA (fun K => He.ma K (He.ga K "TempoMap") "__init__") 0 K
theorem ty_dfl (T : Tx K mg base) (H : Hp) : TyX K H (.ref (dflP K)) (.type "tuple") := by
  have h := T.dt_TempoMap_init_ (fun _ => none)
  rcases h with (h | ⟨o, h⟩) | ⟨o, its, n, h, hc, _⟩
  · cases h
  · cases h
  · exact .kTuple h hc
def spIsList0 (K : PySem.W.Frag) : Sp := fun vs H Q _ => vs = [.ref (dflP K)] ∧ ∀ H', Same H H' → Q (.bl true) H'
theorem ok0_is_list (T : Tx K mg base) : Ok P w K mg base 1 (d_is_list.loc K) ["value"] (spIsList0 K) := by
  refine mk_ok (k := 0) T.f_is_list sc_is_list (fun _ _ _ _ _ _ us hl => match us, hl with | [_], _ => rfl) (fun vs H Q E h => ?_) (fun cdv A outer s H vs Q E hr h => ?_)
  · rw [h.1]
    rfl
  · obtain ⟨rfl, k⟩ := h
    refine ⟨_, (pss_one (ps_ret (pe_callB call_isiT (by rfl) T.b_isinstance (by decide +kernel) (pa_cons (pv 0) (pa_cons (pe_tup (pa_cons (pe_bltn (v := .ty "list") rfl T.b_list (by decide +kernel) rfl) (pa_cons (pe_bltn (v := .ty "tuple") rfl T.b_tuple (by decide +kernel) rfl) pa_nil))) pa_nil))))), ?_⟩
    refine ⟨_, rfl, (by show 2 ≤ sizeLine; decide), fun p hp => ?_⟩
    have s1 : Same H (upd H p (.tup [.ty "list", .ty "tuple"])) := AT.Same.up hp
    refine ⟨_, p, _, _, _, _, rfl, upd_same, .cons (.ty _) (.cons (.ty _) .nil), ty_dfl T _, ?_, k _ s1⟩
    show PySem.W.kitAny K (.type "tuple") [.type "list", .type "tuple"] = some true
    unfold PySem.W.kitAny
    rw [kit_ty (K := K) (r := false) (by decide +kernel)]
    show PySem.W.kitAny K (.type "tuple") [.type "tuple"] = some true
    unfold PySem.W.kitAny
    rw [kit_ty (K := K) (r := true) (by decide +kernel)]
def spChk0 (K : PySem.W.Frag) : Sp := fun vs H Q _ => vs = [.ref (dflP K)] ∧ ∀ D H', Same H H' → H D = none → H' D = some (.lst []) → Q (.ref D) H'
theorem ok0_checked_points (T : Tx K mg base) : Ok P w K mg base 7 (d_checked_points.loc K) ["points"] (spChk0 K) := by
  refine mk_ok (k := 6) T.f_checked_points sc_checked_points (fun _ _ _ _ _ _ us hl => match us, hl with | [_], _ => rfl) (fun vs H Q E h => ?_) (fun cdv A outer s H vs Q E hr h => ?_)
  · rw [h.1]
    rfl
  · obtain ⟨rfl, k⟩ := h
    refine ⟨_, (pss_cons (ps_if (pt_not (pt_val (ok_call (ok0_is_list T) (hr.mono (by decide)) rfl T.g_is_list passL (pa_cons (pv 0) pa_nil)))) (pss_one (ps_rs rfl (mx_InvalidPart T (hr.mono (by decide))) (takes_of rfl rfl rfl rfl) rfl (pv 0))) pss_nil)
      (pss_cons (ps_set (i := 1) sc_checked_points.nd rfl (Or.inl rfl) (pe_lst pa_nil))
      (pss_cons (ps_for (passes_of rfl) rfl (pi_enumA (by rfl) T.b_enumerate (pa_cons (pv 0) pa_nil)) (pg_tup rfl (pgs_cons (pg_name (i := 2) sc_checked_points.nd rfl (Or.inl rfl)) (pgs_cons (pg_name (i := 3) sc_checked_points.nd rfl (Or.inl rfl)) pgs_nil))) (pss_cons (ps_if (PW.pt (pw_or (pt_not (pt_val (ok_call (ok_is_row T) (hr.mono (by decide)) rfl T.g_is_row passL (pa_cons (pv 3) (pa_cons pe_int pa_nil))))) (pw_or (pt_not (pt_val (ok_call (ok_is_amount T) (hr.mono (by decide)) rfl T.g_is_amount passL (pa_cons (pe_ix ix_sq (pv 3) pe_int (fun _ _ => rfl)) pa_nil)))) (pw_or1 (pt_not (pt_val (ok_call (ok_is_amount T) (hr.mono (by decide)) rfl T.g_is_amount passL (pa_cons (pe_ix ix_sq (pv 3) pe_int (fun _ _ => rfl)) pa_nil)))))))) (pss_one (ps_rs rfl (mx_InvalidPoint T (hr.mono (by decide))) (takes_of rfl rfl rfl rfl) rfl (pv 3))) pss_nil)
      (pss_cons (ps_par (by rfl) sc_checked_points.nd (i := 4) (j := 5) rfl rfl (by decide) rfl rfl (pa_cons (ok_call (ok_amount_from T) (hr.mono (by decide)) rfl T.g_amount_from (passE rfl rfl rfl rfl) (pa_cons (pe_ix ix_sq (pv 3) pe_int (fun _ _ => rfl)) pa_nil)) (pa_cons (ok_call (ok_amount_from T) (hr.mono (by decide)) rfl T.g_amount_from (passE rfl rfl rfl rfl) (pa_cons (pe_ix ix_sq (pv 3) pe_int (fun _ _ => rfl)) pa_nil)) pa_nil)) (by rfl))
      (Evl.pss_cut (ps_if (PW.pt (pw_and (pt_truth (pv 1) (by intro _; rfl)) (pw_and1 (pt_not (PW.pt (pw_and (pt_cmpR op_lt (ok_meth T.cls_Amount T.m_Amount_compare (ok_Amount_compare T) (hr.mono (by decide)) (passE rfl rfl rfl rfl) (pe_ix ix_tup (pe_ix ix_list (pv 1) (pe_un un_neg pe_int) (fun _ _ => rfl)) pe_int (fun _ _ => rfl)) (pa_cons (pv 4) pa_nil)) pe_int (nomark _)) (pw_and1 (pt_cmpR op_lt (ok_meth T.cls_Amount T.m_Amount_compare (ok_Amount_compare T) (hr.mono (by decide)) (passE rfl rfl rfl rfl) (pe_ix ix_tup (pe_ix ix_list (pv 1) (pe_un un_neg pe_int) (fun _ _ => rfl)) pe_int (fun _ _ => rfl)) (pa_cons (pv 5) pa_nil)) pe_int (nomark _))))))))) (pss_one (ps_rs rfl (mx_Falling T (hr.mono (by decide))) (takes_of rfl rfl rfl rfl) rfl (pv 2))) pss_nil)
      (pss_one (ps_expr (pe_bm PySem.F.plainAttrs_list PySem.F.slot_list_append PySem.F.type_list_append mt_append (pv 1) (pa_cons (pe_tup (pa_cons (pv 4) (pa_cons (pv 5) pa_nil))) pa_nil))))))))
      (pss_one (ps_ret (pv 1)))))), ?_⟩
    refine ⟨_, rfl, rfl, fun H1 s1 => ⟨_, rfl, iteF ?_⟩⟩
    refine ⟨Nat.zero_le _, fun D hD => ?_⟩
    refine ⟨_, rfl, dflP K, [], rfl, .inr (T.dt_TempoMap_init_ _), fun J hJ => ?_⟩
    obtain ⟨G, wk, hG0⟩ := en_walk hJ
    refine for_it wk (fun i σ' H' => ∃ (o2 o3 o4 o5 : Option V), σ' = ([some (.ref (dflP K)), some (.ref D), o2, o3, o4, o5] : L2.St) ∧ H' = upd H1 D (.lst [])) ⟨_, _, _, _, rfl, rfl⟩ (fun i σ' H' hi hP => ?_) (fun i y σ' H' H2 hi hP hY => absurd hi (Nat.not_lt_zero _)) (fun σ' H' hP => ?_)
    · obtain ⟨_, _, _, _, _, rfl⟩ := hP
      exact hG0 _ rfl
    · obtain ⟨_, _, _, _, rfl, rfl⟩ := hP
      exact ⟨_, rfl, k D _ (s1.trans (AT.Same.up hD)) (none_of s1 hD) upd_same⟩
def spMap0 (K : PySem.W.Frag) : Sp := fun vs H Q _ => ∃ m dx, vs = [.ref m, .ref (dflP K)] ∧ H m = some (.ins (cM K) dx []) ∧ ∀ H' : Hp, (∀ b o, b ≠ m → H b = some o → H' b = some o) → IsMap K H' m (bendQ []) → Q .non H'
theorem okd0_TempoMap_init_ (T : Tx K mg base) : OkD P w K mg base 12 (He.ma K (He.ga K "TempoMap") "__init__") ["self", "points"] [.ref (dflP K)] (spMap0 K) := by
  refine (mk_okD1 (k := 11) (n := 1) T.f_TempoMap_init_ sc_TempoMap_init_ rfl (fun _ _ _ _ _ _ _ us u hl => match us, hl with | [_], _ => ⟨_, rfl, rfl⟩) (fun _ _ _ _ _ _ _ us u hl => match us, hl with | [_, _], _ => ⟨_, rfl, rfl⟩) (fun vs H Q E h => ?_) (fun cdv A outer s H vs Q E hr h => ?_)).2
  · obtain ⟨m, dx, rfl, _⟩ := h
    rfl
  · obtain ⟨m, dx, rfl, hm, k⟩ := h
    refine ⟨_, (pss_one (ps_fld (pv 0) (pe_callTy call_tuple_of (by rfl) T.b_tuple (by decide +kernel) (pa_cons (ok_call (ok_bends T) (hr.mono (by decide)) rfl T.g_bends passL (pa_cons (ok_call (ok0_checked_points T) (hr.mono (by decide)) rfl T.g_checked_points (passE rfl rfl rfl rfl) (pa_cons (pv 1) pa_nil)) pa_nil)) pa_nil)) rfl)), ?_⟩
    refine ⟨_, rfl, rfl, fun D H1 s1 hD hl => ?_⟩
    refine ⟨D, [], true, [], rfl, hl, .nil, (by decide), (fun z => nomatch z), trivial, (fun _ h => nomatch h), fun D2 us2 H2 s2 hD2 hl2 hp2 => ?_⟩
    refine ⟨D2, us2, rfl, .inl ⟨SqL.of hl2, fun t ht => ?_⟩⟩
    have s3 := AT.Same.up (o := .tup us2) ht
    have s03 := (s1.trans s2).trans s3
    refine ⟨_, rfl, m, _, dx, _, rfl, s03 _ _ hm, T.cls_TempoMap, T.no_TempoMap_own_points, (by decide), ?_⟩
    refine k _ (fun b o hb e => by rw [upd_ne hb]; exact s03 _ _ e) ⟨dx, t, us2, upd_same, ?_, ?_⟩
    · rw [upd_ne (by rintro rfl; rw [(s1.trans s2) _ _ hm] at ht; cases ht)]
      exact upd_same
    · exact (hp2.up s3).setI (s03 _ _ hm)
end
end K09

set_option maxHeartbeats 4000000
namespace K09
open PySem PySem.Spec PyProof.Rows L2 AT
/-! ### the law's draws -/
def BoxAt (H : Hp) (p : Addr) (n : Nat) : Prop := ∃ a b c : Int, H p = some (.lst [.int a, .int b, .int c]) ∧ 0 ≤ a ∧ 0 ≤ b ∧ b < 2147483629 ∧ 0 ≤ c ∧ c ≤ n
/-- all but the object at p is as it was -/
def SameX (p : Addr) (H H' : Hp) : Prop := ∀ b o, b ≠ p → H b = some o → H' b = some o
theorem SameX.refl (p : Addr) (H : Hp) : SameX p H H := fun _ _ _ e => e
theorem SameX.trans {p : Addr} {H H1 H2 : Hp} (a : SameX p H H1) (b : SameX p H1 H2) : SameX p H H2 := fun x o n e => b x o n (a x o n e)
theorem sameX_of {p : Addr} {H H' : Hp} (s : Same H H') : SameX p H H' := fun b o _ e => s b o e
theorem BoxAt.up {H H' : Hp} {p : Addr} {n : Nat} (h : BoxAt H p n) (s : Same H H') : BoxAt H' p n := by
  obtain ⟨a, b, c, e, r⟩ := h
  exact ⟨a, b, c, s _ _ e, r⟩
theorem BoxAt.mono {H : Hp} {p : Addr} {n m : Nat} (h : BoxAt H p n) (l : n ≤ m) : BoxAt H p m := by
  obtain ⟨a, b, c, e, h1, h2, h3, h4, h5⟩ := h
  exact ⟨a, b, c, e, h1, h2, h3, h4, by omega⟩
section
variable {P : Program} {w : World} {K : PySem.W.Frag} {mg : Str → Option Value} {base : Heap}
def spCell (K : PySem.W.Frag) : Sp := fun vs H Q _ => ∃ (a : Addr) (ns : List Int) (k : Nat), vs = [.ref a, .int k] ∧ SqL K H a (ns.map V.int) ∧ k < 100 ∧ ∀ c : Int, Q (.int c) H
theorem sc_w_cell : FnScope ["_law_script", "_law_index"] ["_law_script", "_law_index"] (defScope s_w_cell) := ⟨rfl, rfl, rfl, by decide +kernel, rfl, by decide +kernel, by decide +kernel⟩
theorem ok_w_cell (T : Tx K mg base) : Ok P w K mg base 1 (d_w_cell.loc K) ["_law_script", "_law_index"] (spCell K) := by
  refine mk_ok (k := 0) T.f_w_cell sc_w_cell (fun _ _ _ _ _ _ us hl => match us, hl with | [_, _], _ => rfl) (fun vs H Q E h => ?_) (fun cdv A outer s H vs Q E hr h => ?_)
  · obtain ⟨a, ns, k, rfl, _⟩ := h
    rfl
  · obtain ⟨a, ns, k, rfl, hS, hk, q⟩ := h
    refine ⟨_, (pss_cons (ps_if (pt_cmpR op_lt (pv 1) (pe_callB call_len_seq (by rfl) T.b_len (by decide +kernel) (pa_cons (pv 0) pa_nil)) (nomark _)) (pss_one (ps_ret (pe_ix ix_list (pv 0) (pv 1) (fun _ _ => rfl)))) pss_nil)
      (pss_one (ps_ret (pe_op op_add (pe_op op_mulW pe_int (pv 1)) pe_int)))), ?_⟩
    refine ⟨_, rfl, _, rfl, a, _, rfl, .inl hS, _, _, rfl, rfl, _, rfl, ?_⟩
    refine ite2 (fun h1 => ?_) (fun h1 => ?_)
    · have h1' : (k : Int) < ((ns.map V.int).length : Int) := of_decide_eq_true h1
      rw [List.length_map] at h1'
      have hx : (ns.map V.int)[k]? = some (.int (ns.getD k 0)) := by
        rw [List.getElem?_map, List.getElem?_eq_getElem (by omega), List.getD_eq_getElem?_getD, List.getElem?_eq_getElem (by omega)]
        rfl
      exact ⟨_, rfl, _, rfl, a, _, _, _, rfl, rfl, hS, atI_nat hx, q _⟩
    · exact ⟨_, rfl, _, _, rfl, rfl, wide_mul (a := 64) (b := 64) (by decide) (by rw [Int.natAbs_natCast]; exact Nat.lt_trans hk (by decide)) (by decide) (by decide) (by decide), _, _, rfl, rfl, q _⟩
def spBox : Sp := fun vs H Q _ => ∃ c : Int, vs = [.int c] ∧ ∀ p H', Same H H' → H p = none → BoxAt H' p 0 → Q (.ref p) H'
theorem sc_w_bag : FnScope ["_law_cell_here"] ["_law_cell_here"] (defScope s_w_bag) := ⟨rfl, rfl, rfl, by decide +kernel, rfl, by decide +kernel, by decide +kernel⟩
theorem ok_w_bag (T : Tx K mg base) : Ok P w K mg base 1 (d_w_bag.loc K) ["_law_cell_here"] spBox := by
  refine mk_ok (k := 0) T.f_w_bag sc_w_bag (fun _ _ _ _ _ _ us hl => match us, hl with | [_], _ => rfl) (fun vs H Q E h => ?_) (fun cdv A outer s H vs Q E hr h => ?_)
  · obtain ⟨c, rfl, _⟩ := h
    rfl
  · obtain ⟨c, rfl, k⟩ := h
    refine ⟨_, (pss_one (ps_ret (pe_lst (pa_cons (pe_callB (call_max2 rfl) (by rfl) T.b_max (by decide +kernel) (pa_cons pe_int (pa_cons (pe_op op_sub (pv 0) (pe_op op_pow pe_int pe_int)) pa_nil))) (pa_cons (pe_op op_mod (pv 0) pe_int) (pa_cons pe_int pa_nil)))))), ?_⟩
    refine ⟨_, rfl, _, _, rfl, rfl, ⟨by decide, by decide, by decide⟩, _, _, rfl, rfl, _, _, rfl, _, rfl, _, _, rfl, rfl, (show (0 : Int) < 2147483629 by decide), (by show 3 ≤ sizeLine; decide), fun p hp => ?_⟩
    exact k p _ (AT.Same.up hp) hp ⟨_, _, _, upd_same, by split <;> omega, Int.emod_nonneg _ (by decide), Int.emod_lt_of_pos _ (by decide), by decide, by decide⟩
def spTake : Sp := fun vs H Q _ => ∃ (p : Addr) (many : Int) (n : Nat), vs = [.ref p, .int many] ∧ BoxAt H p n ∧ n ≤ 100000 ∧ 0 < many ∧ many.natAbs < 2 ^ 1000 ∧ ∀ (r : Int) H', 0 ≤ r → r < many → SameX p H H' → BoxAt H' p (n + 1) → Q (.int r) H'
theorem sc_w_take : FnScope ["_law_bag_here", "_law_many", "_law_digit", "_law_mixed"] ["_law_bag_here", "_law_many"] (defScope s_w_take) := ⟨rfl, rfl, rfl, by decide +kernel, rfl, by decide +kernel, by decide +kernel⟩
theorem ok_w_take (T : Tx K mg base) : Ok P w K mg base 1 (d_w_take.loc K) ["_law_bag_here", "_law_many"] spTake := by
  refine mk_ok (k := 0) T.f_w_take sc_w_take (fun _ _ _ _ _ _ us hl => match us, hl with | [_, _], _ => rfl) (fun vs H Q E h => ?_) (fun cdv A outer s H vs Q E hr h => ?_)
  · obtain ⟨p, many, n, rfl, _⟩ := h
    rfl
  · obtain ⟨p, many, n, rfl, ⟨a, b, c, hp, ha, hb, hb2, hc, hcn⟩, hn, hm, hmb, k⟩ := h
    refine ⟨_, (pss_cons (ps_if (pt_cmpR op_gt (pe_ix ix_list (pv 0) pe_int (fun _ _ => rfl)) pe_int (nomark _)) (pss_cons (ps_set (i := 2) sc_w_take.nd rfl (Or.inl rfl) (pe_op op_mod (pe_ix ix_list (pv 0) pe_int (fun _ _ => rfl)) (pv 1)))
      (pss_cons (ps_asg (pe_op op_fdivW (pe_ix ix_list (pv 0) pe_int (fun _ _ => rfl)) (pv 1)) (pg_sub (pv 0) pe_int set_list))
      (pss_one (ps_ret (pv 2))))) pss_nil)
      (pss_cons (ps_asg (pe_op op_add (pe_ix ix_list (pv 0) pe_int (fun _ _ => rfl)) pe_int) (pg_sub (pv 0) pe_int set_list))
      (pss_cons (ps_set (i := 3) sc_w_take.nd rfl (Or.inl rfl) (pe_op op_mod (pe_op op_pow (pe_op op_add (pe_op op_add (pe_ix ix_list (pv 0) pe_int (fun _ _ => rfl)) (pe_op op_mulW pe_int (pe_ix ix_list (pv 0) pe_int (fun _ _ => rfl)))) pe_int) pe_int) pe_int))
      (pss_cons (ps_set (i := 3) sc_w_take.nd rfl (Or.inl rfl) (pe_op op_mod (pe_op op_pow (pe_op op_add (pv 3) (pe_op op_mulW pe_int (pe_ix ix_list (pv 0) pe_int (fun _ _ => rfl)))) pe_int) pe_int))
      (pss_one (ps_ret (pe_op op_mod (pe_op op_fdivW (pv 3) pe_int) (pv 1)))))))), ?_⟩
    have sx : ∀ o, SameX p H (upd H p o) := fun o x u hx e => by rw [upd_ne hx]; exact e
    refine ⟨_, rfl, p, _, 0, _, rfl, rfl, SqL.of hp, rfl, _, _, rfl, rfl, _, rfl, ?_⟩
    refine ite2 (fun h1 => ?_) (fun h1 => ?_)
    · have h1' : 0 < a := of_decide_eq_true h1
      refine ⟨_, rfl, p, _, 0, _, rfl, rfl, SqL.of hp, rfl, _, rfl, _, _, rfl, rfl, hm, ?_⟩
      refine ⟨_, rfl, p, _, 0, _, rfl, rfl, SqL.of hp, rfl, _, rfl, _, _, rfl, rfl, wide_div hm hmb (by decide) (by decide), _, rfl, p, _, 0, 0, rfl, rfl, hp, rfl, ?_⟩
      refine ⟨_, rfl, k _ _ (Int.emod_nonneg _ (by omega)) (Int.emod_lt_of_pos _ hm) (sx _) ⟨a / many, b, c, upd_same, Int.ediv_nonneg ha (by omega), hb, hb2, hc, by omega⟩⟩
    · refine ⟨_, rfl, p, _, 2, _, rfl, rfl, SqL.of hp, rfl, _, _, rfl, rfl, _, rfl, p, _, 2, 2, rfl, rfl, hp, rfl, ?_⟩
      have hp2 : upd H p (.lst [.int a, .int b, .int (c + 1)]) p = some (.lst [.int a, .int b, .int (c + 1)]) := upd_same
      refine ⟨_, rfl, p, _, 1, _, rfl, rfl, SqL.of hp2, rfl, _, rfl, p, _, 2, _, rfl, rfl, SqL.of hp2, rfl, _, _, rfl, rfl, wide_mul (a := 64) (b := 64) (by decide) (by omega) (by decide) (by decide) (by decide), _, _, rfl, rfl, _, _, rfl, rfl, _, _, rfl, rfl, ⟨by decide, by decide, by omega⟩, _, _, rfl, rfl, (show (0 : Int) < 2147483647 by decide), ?_⟩
      generalize hx : ((b + 393342743 * (c + 1) + 131) ^ (5 : Int).toNat) % 2147483647 = x
      have hx1 : 0 ≤ x := hx ▸ Int.emod_nonneg _ (by decide)
      have hx2 : x < 2147483647 := hx ▸ Int.emod_lt_of_pos _ (by decide)
      refine ⟨_, rfl, _, rfl, p, _, 2, _, rfl, rfl, SqL.of hp2, rfl, _, _, rfl, rfl, wide_mul (a := 64) (b := 64) (by decide) (by omega) (by decide) (by decide) (by decide), _, _, rfl, rfl, _, _, rfl, rfl, ⟨by decide, by decide, by omega⟩, _, _, rfl, rfl, (show (0 : Int) < 2147483587 by decide), ?_⟩
      generalize ((x + 103217 * (c + 1)) ^ (3 : Int).toNat) % 2147483587 = y
      refine ⟨_, rfl, _, _, rfl, rfl, wide_div (b := 10) (by decide) (by decide) (by decide) (by decide), _, rfl, _, _, rfl, rfl, hm, ?_⟩
      exact k _ _ (Int.emod_nonneg _ (by omega)) (Int.emod_lt_of_pos _ hm) (sx _) ⟨a, b, c + 1, upd_same, ha, hb, hb2, by omega, by omega⟩
end
end K09

set_option maxHeartbeats 4000000
namespace K09
open PySem PySem.Spec PyProof.Rows L2 AT
/-! ### the law's own fractions: pairs in lowest terms -/
def pairQ (q : Rat) : HO := .tup [.int q.num, .int q.den]
theorem sg_num {t b : Int} (s : Int) (hs : s = if b < 0 then -1 else 1) (h : b ≠ 0) : (s * t).fdiv (Int.gcd t b : Nat) = (Rat.divInt t b).num := by
  rw [Rat.num_divInt, Int.gcd_comm b t, Int.fdiv_eq_ediv_of_nonneg _ (by omega)]
  have e : b.sign = s := by
    rw [hs]
    split
    · rename_i z; exact Int.sign_eq_neg_one_of_neg z
    · exact Int.sign_eq_one_of_pos (by omega)
  rw [e]
theorem sg_den {t b : Int} (s : Int) (hs : s = if b < 0 then -1 else 1) (h : b ≠ 0) : (s * b).fdiv (Int.gcd t b : Nat) = ((Rat.divInt t b).den : Int) := by
  rw [Rat.den_divInt, if_neg h, Int.gcd_comm b t, Int.fdiv_eq_ediv_of_nonneg _ (by omega)]
  have e : s * b = (b.natAbs : Int) := by
    rw [hs]
    split <;> omega
  rw [e]
  simp
section
variable {P : Program} {w : World} {K : PySem.W.Frag} {mg : Str → Option Value} {base : Heap}
def spFrac : Sp := fun vs H Q _ => ∃ t b : Int, vs = [.int t, .int b] ∧ b ≠ 0 ∧ t.natAbs < 2 ^ 8000 ∧ b.natAbs < 2 ^ 8000 ∧ ∀ q H', Same H H' → H q = none → H' q = some (pairQ (Rat.divInt t b)) → Q (.ref q) H'
theorem sc_w_frac : FnScope ["_law_top", "_law_bottom", "_law_one", "_law_other", "_law_sign"] ["_law_top", "_law_bottom"] (defScope s_w_frac) := ⟨rfl, rfl, rfl, by decide +kernel, rfl, by decide +kernel, by decide +kernel⟩
theorem ok_w_frac (T : Tx K mg base) : Ok P w K mg base 1 (d_w_frac.loc K) ["_law_top", "_law_bottom"] spFrac := by
  refine mk_ok (k := 0) T.f_w_frac sc_w_frac (fun _ _ _ _ _ _ us hl => match us, hl with | [_, _], _ => rfl) (fun vs H Q E h => ?_) (fun cdv A outer s H vs Q E hr h => ?_)
  · obtain ⟨t, b, rfl, _⟩ := h
    rfl
  · obtain ⟨t, b, rfl, hb0, htd, hbd, k⟩ := h
    refine ⟨_, (pss_cons (ps_par (by rfl) sc_w_frac.nd (i := 2) (j := 3) rfl rfl (by decide) rfl rfl (pa_cons (pe_callB call_abs (by rfl) T.b_abs (by decide +kernel) (pa_cons (pv 0) pa_nil)) (pa_cons (pe_callB call_abs (by rfl) T.b_abs (by decide +kernel) (pa_cons (pv 1) pa_nil)) pa_nil)) (by rfl))
      (pss_cons (ps_while (passes_of rfl) (pt_cmpR op_gt (pv 3) pe_int (nomark _)) (pss_one (ps_par (by rfl) sc_w_frac.nd (i := 2) (j := 3) rfl rfl (by decide) rfl rfl (pa_cons (pv 3) (pa_cons (pe_op op_mod (pv 2) (pv 3)) pa_nil)) (by rfl))))
      (pss_cons (ps_set (i := 4) sc_w_frac.nd rfl (Or.inl rfl) (pe_ifExp (pt_cmpR op_lt (pv 1) pe_int (nomark _)) (pe_un un_neg pe_int) pe_int))
      (pss_one (ps_ret (pe_tup (pa_cons (pe_op op_fdivZ (pe_op op_mulW (pv 4) (pv 0)) (pv 2)) (pa_cons (pe_op op_fdivZ (pe_op op_mulW (pv 4) (pv 1)) (pv 2)) pa_nil)))))))), ?_⟩
    refine ⟨_, rfl, t, rfl, _, rfl, b, rfl, _, _, rfl, ?_⟩
    refine ⟨fun m σ H' => ∃ a' b' : Int, σ = ([some (.int t), some (.int b), some (.int a'), some (.int b'), none] : L2.St) ∧ H' = H ∧ 0 ≤ a' ∧ 0 ≤ b' ∧ Int.gcd a' b' = Int.gcd t b ∧ m = b'.toNat, ⟨_, _, _, rfl, rfl, (by split <;> omega), (by split <;> omega), abs_gcd t b, rfl⟩, ?_⟩
    rintro m σ H' ⟨a', b', rfl, rfl, ha', hb', hg, rfl⟩
    refine ⟨_, rfl, _, _, rfl, rfl, _, rfl, ?_⟩
    refine ite2 (fun h1 => ?_) (fun h1 => ?_)
    · have h1' : 0 < b' := of_decide_eq_true h1
      refine ⟨fun σ2 H2 => ∃ a2 b2 : Int, σ2 = ([some (.int t), some (.int b), some (.int a2), some (.int b2), none] : L2.St) ∧ H2 = H' ∧ 0 ≤ a2 ∧ 0 ≤ b2 ∧ Int.gcd a2 b2 = Int.gcd t b ∧ b2 < b', ?_, ?_⟩
      · rintro σ2 H2 ⟨a2, b2, rfl, rfl, h2, h3, h4, h5⟩
        exact ⟨b2.toNat, by omega, a2, b2, rfl, rfl, h2, h3, h4, rfl⟩
      · refine ⟨_, rfl, _, rfl, _, rfl, _, _, rfl, rfl, h1', _, _, rfl, ?_⟩
        exact ⟨b', a' % b', rfl, rfl, hb', Int.emod_nonneg _ (by omega), by rw [gcd_turn ha' h1', hg], Int.emod_lt_of_pos _ h1'⟩
    · have h0 : b' = 0 := by
        have := of_decide_eq_false (by simpa using h1 : decide (0 < b') = false)
        omega
      subst h0
      have e : a' = (Int.gcd t b : Nat) := by rw [← hg, Int.gcd_zero_right]; omega
      subst e
      have hgp := gcd_pos (t := t) hb0
      have hle := gcd_le (t := t) hb0
      have hlog : (Int.gcd t b).log2 < 9000 := log_lt (by decide) (Nat.lt_of_le_of_lt hle (Nat.lt_trans hbd (Nat.pow_lt_pow_right (by decide) (by decide))))
      have cd : ∀ i : Int, CDivZ i (Int.gcd t b : Nat) := fun i => ⟨by omega, by rw [Int.natAbs_natCast]; exact hlog⟩
      have one : ∀ s : Int, s = 1 ∨ s = -1 → s.natAbs < 2 ^ 10 := by rintro s (rfl | rfl) <;> decide
      have cm : ∀ s i : Int, (s = 1 ∨ s = -1) → i.natAbs < 2 ^ 8000 → CMulW s i := fun s i hs hi => wide_mul (one s hs) hi (by decide) (by decide) (by decide)
      have fin : ∀ s : Int, (s = if b < 0 then -1 else 1) → tRet (tTup (tCons (tOp (rI CDivZ fun i j => .int (i.fdiv j)) (tOp (rI CMulW fun i j => .int (i * j)) (tVar 4) (tVar 0)) (tVar 2)) (tCons (tOp (rI CDivZ fun i j => .int (i.fdiv j)) (tOp (rI CMulW fun i j => .int (i * j)) (tVar 4) (tVar 1)) (tVar 2)) tNil))) { nx := fun _ H' => Q .non H', rt := Q } ([some (.int t), some (.int b), some (.int (Int.gcd t b : Nat)), some (.int 0), some (.int s)] : L2.St) H' := by
        intro s hs
        have s1 : s = 1 ∨ s = -1 := by rw [hs]; split <;> simp
        refine ⟨_, rfl, _, rfl, _, _, rfl, rfl, cm s t s1 htd, _, rfl, _, _, rfl, rfl, cd _, _, rfl, _, rfl, _, _, rfl, rfl, cm s b s1 hbd, _, rfl, _, _, rfl, rfl, cd _, (by show 2 ≤ sizeLine; decide), fun q hq => k q _ (AT.Same.up hq) hq ?_⟩
        show upd H' q (.tup [.int ((s * t).fdiv (Int.gcd t b : Nat)), .int ((s * b).fdiv (Int.gcd t b : Nat))]) q = _
        rw [upd_same, sg_num s hs hb0, sg_den s hs hb0]
        rfl
      refine ⟨_, rfl, _, _, rfl, rfl, _, rfl, ?_⟩
      refine ite2 (fun h2 => ?_) (fun h2 => ?_)
      · have h2' : b < 0 := of_decide_eq_true h2
        exact ⟨_, rfl, fin (-1) (by rw [if_pos h2'])⟩
      · have h2' : ¬ b < 0 := of_decide_eq_false (by simpa using h2)
        exact fin 1 (by rw [if_neg h2'])
/-- a pair that stands for q -/
def PQ (H : Hp) (v : V) (q : Rat) : Prop := ∃ a, v = .ref a ∧ H a = some (pairQ q)
theorem PQ.up {H H' : Hp} {v : V} {q : Rat} (h : PQ H v q) (s : Same H H') : PQ H' v q := h.imp fun _ z => ⟨z.1, s _ _ z.2⟩
theorem mul4 {i j : Int} (h : i.natAbs < 2 ^ 3000) (g : j.natAbs < 2 ^ 3000) : CMulW i j := wide_mul h g (by decide) (by decide) (by decide)
theorem den_of {k : Nat} {q : Rat} (h : Bits k q) : ((q.den : Nat) : Int).natAbs < 2 ^ k := den_bits h
def spTwo (op : Rat → Rat → Rat) : Sp := fun vs H Q _ => ∃ v1 v2 x y, vs = [v1, v2] ∧ PQ H v1 x ∧ PQ H v2 y ∧ Bits 3000 x ∧ Bits 3000 y ∧ ∀ v H', Same H H' → PQ H' v (op x y) → Q v H'
theorem sc_w_sum : FnScope ["_law_one", "_law_other"] ["_law_one", "_law_other"] (defScope s_w_sum) := ⟨rfl, rfl, rfl, by decide +kernel, rfl, by decide +kernel, by decide +kernel⟩
theorem ok_w_sum (T : Tx K mg base) : Ok P w K mg base 2 (d_w_sum.loc K) ["_law_one", "_law_other"] (spTwo fun x y => x + y) := by
  refine mk_ok (k := 1) T.f_w_sum sc_w_sum (fun _ _ _ _ _ _ us hl => match us, hl with | [_, _], _ => rfl) (fun vs H Q E h => ?_) (fun cdv A outer s H vs Q E hr h => ?_)
  · obtain ⟨v1, v2, x, y, rfl, _⟩ := h
    rfl
  · obtain ⟨_, _, x, y, rfl, ⟨a, rfl, ha⟩, ⟨b, rfl, hb⟩, bx, by_, k⟩ := h
    refine ⟨_, (pss_one (ps_ret (ok_call (ok_w_frac T) (hr.mono (by decide)) rfl T.g_w_frac passL (pa_cons (pe_op op_add (pe_op op_mulW (pe_ix ix_tup (pv 0) pe_int (fun _ _ => rfl)) (pe_ix ix_tup (pv 1) pe_int (fun _ _ => rfl))) (pe_op op_mulW (pe_ix ix_tup (pv 1) pe_int (fun _ _ => rfl)) (pe_ix ix_tup (pv 0) pe_int (fun _ _ => rfl)))) (pa_cons (pe_op op_mulW (pe_ix ix_tup (pv 0) pe_int (fun _ _ => rfl)) (pe_ix ix_tup (pv 1) pe_int (fun _ _ => rfl))) pa_nil))))), ?_⟩
    have m1 := mul_bits bx.1 (den_bits by_)
    have m2 := mul_bits by_.1 (den_bits bx)
    have m3 := mul_bits (den_bits bx) (den_bits by_)
    refine ⟨_, rfl, a, _, 0, _, rfl, rfl, SqT.of ha, rfl, _, rfl, b, _, 1, _, rfl, rfl, SqT.of hb, rfl, _, _, rfl, rfl, mul4 bx.1 (den_bits by_), _, rfl, b, _, 0, _, rfl, rfl, SqT.of hb, rfl, _, rfl, a, _, 1, _, rfl, rfl, SqT.of ha, rfl, _, _, rfl, rfl, mul4 by_.1 (den_bits bx), _, _, rfl, rfl, ?_⟩
    refine ⟨_, rfl, a, _, 1, _, rfl, rfl, SqT.of ha, rfl, _, rfl, b, _, 1, _, rfl, rfl, SqT.of hb, rfl, _, _, rfl, rfl, mul4 (den_bits bx) (den_bits by_), _, _, rfl, Int.mul_ne_zero (den_ne x) (den_ne y), ?_, ?_, fun q H' s hq e => ?_⟩
    · have : (2 : Nat) ^ (3000 + 3000) + 2 ^ (3000 + 3000) < 2 ^ 8000 := by decide +kernel
      show (x.num * (y.den : Int) + y.num * (x.den : Int)).natAbs < _
      omega
    · exact Nat.lt_trans m3 (by decide +kernel)
    · refine k _ _ s ⟨q, rfl, ?_⟩
      rw [e]
      exact congrArg (fun z => some (pairQ z)) (q_add x y)
theorem sc_w_rest : FnScope ["_law_one", "_law_other"] ["_law_one", "_law_other"] (defScope s_w_rest) := ⟨rfl, rfl, rfl, by decide +kernel, rfl, by decide +kernel, by decide +kernel⟩
theorem ok_w_rest (T : Tx K mg base) : Ok P w K mg base 2 (d_w_rest.loc K) ["_law_one", "_law_other"] (spTwo fun x y => x - y) := by
  refine mk_ok (k := 1) T.f_w_rest sc_w_rest (fun _ _ _ _ _ _ us hl => match us, hl with | [_, _], _ => rfl) (fun vs H Q E h => ?_) (fun cdv A outer s H vs Q E hr h => ?_)
  · obtain ⟨v1, v2, x, y, rfl, _⟩ := h
    rfl
  · obtain ⟨_, _, x, y, rfl, ⟨a, rfl, ha⟩, ⟨b, rfl, hb⟩, bx, by_, k⟩ := h
    refine ⟨_, (pss_one (ps_ret (ok_call (ok_w_frac T) (hr.mono (by decide)) rfl T.g_w_frac passL (pa_cons (pe_op op_sub (pe_op op_mulW (pe_ix ix_tup (pv 0) pe_int (fun _ _ => rfl)) (pe_ix ix_tup (pv 1) pe_int (fun _ _ => rfl))) (pe_op op_mulW (pe_ix ix_tup (pv 1) pe_int (fun _ _ => rfl)) (pe_ix ix_tup (pv 0) pe_int (fun _ _ => rfl)))) (pa_cons (pe_op op_mulW (pe_ix ix_tup (pv 0) pe_int (fun _ _ => rfl)) (pe_ix ix_tup (pv 1) pe_int (fun _ _ => rfl))) pa_nil))))), ?_⟩
    have m1 := mul_bits bx.1 (den_bits by_)
    have m2 := mul_bits by_.1 (den_bits bx)
    have m3 := mul_bits (den_bits bx) (den_bits by_)
    refine ⟨_, rfl, a, _, 0, _, rfl, rfl, SqT.of ha, rfl, _, rfl, b, _, 1, _, rfl, rfl, SqT.of hb, rfl, _, _, rfl, rfl, mul4 bx.1 (den_bits by_), _, rfl, b, _, 0, _, rfl, rfl, SqT.of hb, rfl, _, rfl, a, _, 1, _, rfl, rfl, SqT.of ha, rfl, _, _, rfl, rfl, mul4 by_.1 (den_bits bx), _, _, rfl, rfl, ?_⟩
    refine ⟨_, rfl, a, _, 1, _, rfl, rfl, SqT.of ha, rfl, _, rfl, b, _, 1, _, rfl, rfl, SqT.of hb, rfl, _, _, rfl, rfl, mul4 (den_bits bx) (den_bits by_), _, _, rfl, Int.mul_ne_zero (den_ne x) (den_ne y), ?_, ?_, fun q H' s hq e => ?_⟩
    · have : (2 : Nat) ^ (3000 + 3000) + 2 ^ (3000 + 3000) < 2 ^ 8000 := by decide +kernel
      show (x.num * (y.den : Int) - y.num * (x.den : Int)).natAbs < _
      omega
    · exact Nat.lt_trans m3 (by decide +kernel)
    · refine k _ _ s ⟨q, rfl, ?_⟩
      rw [e]
      exact congrArg (fun z => some (pairQ z)) (q_sub x y)
end
end K09

set_option maxHeartbeats 4000000
namespace K09
open PySem PySem.Spec PyProof.Rows L2 AT
/-! ### fractions with a small bottom -/
def Fine (m : Nat) (q : Rat) : Prop := ∃ k : Int, q = (k : Rat) / 84 ∧ k.natAbs ≤ 84 * m
theorem Fine.add {m n : Nat} {x y : Rat} (h : Fine m x) (g : Fine n y) : Fine (m + n) (x + y) := by
  obtain ⟨k, rfl, hk⟩ := h
  obtain ⟨l, rfl, hl⟩ := g
  exact ⟨k + l, by rw [Rat.intCast_add]; grind, by omega⟩
theorem Fine.sub {m n : Nat} {x y : Rat} (h : Fine m x) (g : Fine n y) : Fine (m + n) (x - y) := by
  obtain ⟨k, rfl, hk⟩ := h
  obtain ⟨l, rfl, hl⟩ := g
  exact ⟨k - l, by rw [Rat.intCast_sub]; grind, by omega⟩
theorem Fine.mono {m n : Nat} {x : Rat} (h : Fine m x) (l : m ≤ n) : Fine n x := by
  obtain ⟨k, e, hk⟩ := h
  exact ⟨k, e, by omega⟩
theorem fine_eq (k : Int) : (k : Rat) / 84 = Rat.divInt k 84 := by
  rw [Rat.divInt_eq_div]
  rfl
theorem Fine.bits {m : Nat} {x : Rat} (h : Fine m x) (hm : m ≤ 100000) : Bits 60 x := by
  obtain ⟨k, rfl, hk⟩ := h
  rw [fine_eq]
  refine bits_of (by decide) ?_ (by decide)
  have : (2 : Nat) ^ 60 = 1152921504606846976 := by decide
  omega
theorem Fine.lt {m n : Nat} {x : Rat} (h : Fine m x) (l : m < n) : x < (n : Rat) := by
  obtain ⟨k, rfl, hk⟩ := h
  have h1 : k < 84 * (n : Int) := by omega
  have h2 : (k : Rat) < ((84 * (n : Int) : Int) : Rat) := Rat.intCast_lt_intCast.mpr h1
  rw [Rat.intCast_mul] at h2
  have h3 : (((n : Int) : Rat)) = (n : Rat) := rfl
  rw [h3] at h2
  grind
theorem fine_frac {t b : Int} (hb : b = 1 ∨ b = 2 ∨ b = 3 ∨ b = 4 ∨ b = 7) (m : Nat) (ht : t.natAbs ≤ m) : Fine m (Rat.divInt t b) := by
  rw [Rat.divInt_eq_div]
  rcases hb with rfl | rfl | rfl | rfl | rfl
  · exact ⟨t * 84, by rw [Rat.intCast_mul]; grind, by omega⟩
  · exact ⟨t * 42, by rw [Rat.intCast_mul]; grind, by omega⟩
  · exact ⟨t * 28, by rw [Rat.intCast_mul]; grind, by omega⟩
  · exact ⟨t * 21, by rw [Rat.intCast_mul]; grind, by omega⟩
  · exact ⟨t * 12, by rw [Rat.intCast_mul]; grind, by omega⟩
section
variable {P : Program} {w : World} {K : PySem.W.Frag} {mg : Str → Option Value} {base : Heap}
theorem PQ.upX {H H' : Hp} {v : V} {q : Rat} {p : Addr} {n : Nat} (h : PQ H v q) (b : BoxAt H p n) (s : SameX p H H') : PQ H' v q := by
  obtain ⟨a, e, z⟩ := h
  refine ⟨a, e, s _ _ ?_ z⟩
  rintro rfl
  obtain ⟨_, _, _, e2, _⟩ := b
  rw [z] at e2
  cases e2
theorem big1 {x : Int} (h : x.natAbs ≤ 1000000000000000000000000000000) : x.natAbs < 2 ^ 1000 := Nat.lt_of_le_of_lt h (by decide +kernel)
theorem big {x : Int} (h : x.natAbs ≤ 1000000000000000000000000000000) : x.natAbs < 2 ^ 8000 := Nat.lt_of_le_of_lt h (by decide +kernel)
theorem box_ne {H : Hp} {p q : Addr} {n : Nat} (hb : BoxAt H p n) (hq : H q = none) : q ≠ p := by
  obtain ⟨a, b, c, e, _⟩ := hb
  rintro rfl
  rw [hq] at e
  cases e
def spDraw (f : Rat → Prop) : Sp := fun vs H Q _ => ∃ (p : Addr) (n : Nat), vs = [.ref p] ∧ BoxAt H p n ∧ n ≤ 10000 ∧ ∀ v q H', SameX p H H' → BoxAt H' p (n + 3) → PQ H' v q → f q → Q v H'
theorem pick4 {r : Int} (h0 : 0 ≤ r) (h1 : r < 4) : ∃ b : Int, atI [V.int 1, V.int 2, V.int 3, V.int 4] r = some (.int b) ∧ (b = 1 ∨ b = 2 ∨ b = 3 ∨ b = 4 ∨ b = 7) := by
  obtain rfl | rfl | rfl | rfl : r = 0 ∨ r = 1 ∨ r = 2 ∨ r = 3 := by omega
  all_goals exact ⟨_, rfl, by decide⟩
theorem pick6 {r : Int} (h0 : 0 ≤ r) (h1 : r < 6) : ∃ b : Int, atI [V.int 1, V.int 1, V.int 2, V.int 3, V.int 4, V.int 7] r = some (.int b) ∧ (b = 1 ∨ b = 2 ∨ b = 3 ∨ b = 4 ∨ b = 7) := by
  obtain rfl | rfl | rfl | rfl | rfl | rfl : r = 0 ∨ r = 1 ∨ r = 2 ∨ r = 3 ∨ r = 4 ∨ r = 5 := by omega
  all_goals exact ⟨_, rfl, by decide⟩
theorem sc_w_fraction : FnScope ["_law_bag_here", "_law_way"] ["_law_bag_here"] (defScope s_w_fraction) := ⟨rfl, rfl, rfl, by decide +kernel, rfl, by decide +kernel, by decide +kernel⟩
theorem ok_w_fraction (T : Tx K mg base) : Ok P w K mg base 2 (d_w_fraction.loc K) ["_law_bag_here"] (spDraw (Fine 900)) := by
  refine mk_ok (k := 1) T.f_w_fraction sc_w_fraction (fun _ _ _ _ _ _ us hl => match us, hl with | [_], _ => rfl) (fun vs H Q E h => ?_) (fun cdv A outer s H vs Q E hr h => ?_)
  · obtain ⟨p, n, rfl, _⟩ := h
    rfl
  · obtain ⟨p, n, rfl, hb, hn, k⟩ := h
    refine ⟨_, (pss_cons (ps_set (i := 1) sc_w_fraction.nd rfl (Or.inl rfl) (ok_call (ok_w_take T) (hr.mono (by decide)) rfl T.g_w_take passL (pa_cons (pv 0) (pa_cons pe_int pa_nil))))
      (pss_cons (ps_if (pt_cmpR op_eq (pv 1) pe_int (nomark _)) (pss_one (ps_ret (ok_call (ok_w_frac T) (hr.mono (by decide)) rfl T.g_w_frac passL (pa_cons (pe_op op_sub (ok_call (ok_w_take T) (hr.mono (by decide)) rfl T.g_w_take passL (pa_cons (pv 0) (pa_cons pe_int pa_nil))) pe_int) (pa_cons (pe_ix ix_list (pe_lst (pa_cons pe_int (pa_cons pe_int (pa_cons pe_int (pa_cons pe_int pa_nil))))) (ok_call (ok_w_take T) (hr.mono (by decide)) rfl T.g_w_take passL (pa_cons (pv 0) (pa_cons pe_int pa_nil))) (fun _ _ => rfl)) pa_nil))))) pss_nil)
      (pss_one (ps_ret (ok_call (ok_w_frac T) (hr.mono (by decide)) rfl T.g_w_frac passL (pa_cons (pe_op op_sub (ok_call (ok_w_take T) (hr.mono (by decide)) rfl T.g_w_take passL (pa_cons (pv 0) (pa_cons pe_int pa_nil))) pe_int) (pa_cons (pe_ix ix_list (pe_lst (pa_cons pe_int (pa_cons pe_int (pa_cons pe_int (pa_cons pe_int (pa_cons pe_int (pa_cons pe_int pa_nil))))))) (ok_call (ok_w_take T) (hr.mono (by decide)) rfl T.g_w_take passL (pa_cons (pv 0) (pa_cons pe_int pa_nil))) (fun _ _ => rfl)) pa_nil))))))), ?_⟩
    refine ⟨_, rfl, p, _, _, rfl, hb, (by omega), (by decide), (by decide +kernel), fun r1 H1 a1 a2 x1 b1 => ?_⟩
    refine ⟨_, rfl, rfl, _, rfl, ?_⟩
    by_cases c : r1 = 0
    · subst c
      rw [decide_eq_true rfl]
      refine iteT ⟨_, rfl, p, _, _, rfl, b1, (by omega), (by decide), (by decide +kernel), fun r2 H2 c1 c2 x2 b2 => ?_⟩
      refine ⟨_, _, rfl, rfl, (by show 4 ≤ sizeLine; decide), fun q hq => ?_⟩
      refine ⟨_, rfl, p, _, _, rfl, b2.up (AT.Same.up hq), (by omega), (by decide), (by decide +kernel), fun r3 H3 d1 d2 x3 b3 => ?_⟩
      obtain ⟨bb, eb, hbb⟩ := pick4 d1 d2
      have nb : bb ≠ 0 := by rcases hbb with z | z | z | z | z <;> omega
      refine ⟨q, _, r3, _, rfl, rfl, SqL.of (x3 _ _ (box_ne b2 hq) upd_same), eb, r2 - 900, bb, rfl, nb, big (by omega), big (by omega), fun u H4 s4 hu e4 => ?_⟩
      exact k _ _ H4 (((x1.trans x2).trans (sameX_of (AT.Same.up hq))).trans (x3.trans (sameX_of s4))) (b3.up s4) ⟨u, rfl, e4⟩ (fine_frac hbb 900 (by omega))
    · rw [decide_eq_false (fun z => c (V.int.inj z))]
      refine iteF ⟨_, rfl, p, _, _, rfl, b1, (by omega), (by decide), (by decide +kernel), fun r2 H2 c1 c2 x2 b2 => ?_⟩
      refine ⟨_, _, rfl, rfl, (by show 6 ≤ sizeLine; decide), fun q hq => ?_⟩
      refine ⟨_, rfl, p, _, _, rfl, b2.up (AT.Same.up hq), (by omega), (by decide), (by decide +kernel), fun r3 H3 d1 d2 x3 b3 => ?_⟩
      obtain ⟨bb, eb, hbb⟩ := pick6 d1 d2
      have nb : bb ≠ 0 := by rcases hbb with z | z | z | z | z <;> omega
      refine ⟨q, _, r3, _, rfl, rfl, SqL.of (x3 _ _ (box_ne b2 hq) upd_same), eb, r2 - 6, bb, rfl, nb, big (by omega), big (by omega), fun u H4 s4 hu e4 => ?_⟩
      exact k _ _ H4 (((x1.trans x2).trans (sameX_of (AT.Same.up hq))).trans (x3.trans (sameX_of s4))) (b3.up s4) ⟨u, rfl, e4⟩ (fine_frac hbb 900 (by omega))
theorem num_le {q : Rat} (h : ¬ 0 < q.num) : q ≤ 0 := by
  rcases (Rat.le_total : q ≤ 0 ∨ 0 ≤ q) with z | z
  · exact z
  · have := Rat.num_nonneg.mpr z
    have e : q.num = 0 := by omega
    rw [Rat.num_eq_zero.mp e]
    exact Rat.le_refl
theorem num_pos {q : Rat} (h : 0 < q.num) : 0 < q := by
  have h1 : 0 ≤ q := Rat.num_nonneg.mp (by omega)
  have h2 : q ≠ 0 := by
    rintro rfl
    exact absurd h (by decide)
  grind
theorem step_val {q : Rat} {m : Nat} (h : Fine m q) (hq : ¬ 0 < q.num) : Fine (m + 1) (Rat.divInt (1 - q.num) q.den) ∧ 0 < Rat.divInt (1 - q.num) q.den := by
  have hd : (0 : Rat) < (q.den : Rat) := Rat.natCast_pos.mpr (by have := q.den_nz; omega)
  have ec : (((q.den : Nat) : Int) : Rat) = (q.den : Rat) := rfl
  have e1 : Rat.divInt (1 - q.num) q.den = 1 / (q.den : Rat) - q := by
    have h1 : q = (q.num : Rat) / (q.den : Rat) := by
      have z := q_self q
      rw [Rat.divInt_eq_div, ec] at z
      exact z.symm
    rw [Rat.divInt_eq_div, Rat.intCast_sub, ec]
    have h2 : ((1 : Int) : Rat) = 1 := rfl
    rw [h2]
    generalize (q.num : Rat) = N at h1 ⊢
    generalize (q.den : Rat) = D at h1 hd ⊢
    subst h1
    grind
  have hle := num_le hq
  obtain ⟨k, e, hk⟩ := h
  have dg : q.den * Int.gcd 84 k = 84 := by
    have z : q.den = 84 / Int.gcd 84 k := by
      rw [e, fine_eq, Rat.den_divInt]
      rfl
    rw [z]
    exact Nat.div_mul_cancel (by have := Int.gcd_dvd_natAbs_left 84 k; simpa using this)
  have gl : Int.gcd 84 k ≤ 84 := Nat.le_of_dvd (by decide) ⟨q.den, by rw [Nat.mul_comm]; exact dg.symm⟩
  have dr : (q.den : Rat) * ((Int.gcd 84 k : Nat) : Rat) = 84 := by
    rw [← Rat.natCast_mul, dg]
    rfl
  have e3 : 1 / (q.den : Rat) = ((Int.gcd 84 k : Nat) : Rat) / 84 := by
    generalize ((Int.gcd 84 k : Nat) : Rat) = G at dr ⊢
    generalize (q.den : Rat) = D at dr hd ⊢
    grind
  rw [e1]
  refine ⟨⟨(Int.gcd 84 k : Nat) - k, ?_, by omega⟩, ?_⟩
  · rw [e3, e, Rat.intCast_sub]
    have : (((Int.gcd 84 k : Nat) : Int) : Rat) = ((Int.gcd 84 k : Nat) : Rat) := rfl
    rw [this]
    grind
  · have hp : 0 < 1 / (q.den : Rat) := by
      generalize (q.den : Rat) = D at hd
      have : 0 < D⁻¹ := Rat.inv_pos.mpr hd
      grind
    grind
theorem sc_w_step : FnScope ["_law_bag_here", "_law_found"] ["_law_bag_here"] (defScope s_w_step) := ⟨rfl, rfl, rfl, by decide +kernel, rfl, by decide +kernel, by decide +kernel⟩
theorem ok_w_step (T : Tx K mg base) : Ok P w K mg base 3 (d_w_step.loc K) ["_law_bag_here"] (spDraw fun q => Fine 901 q ∧ 0 < q) := by
  refine mk_ok (k := 2) T.f_w_step sc_w_step (fun _ _ _ _ _ _ us hl => match us, hl with | [_], _ => rfl) (fun vs H Q E h => ?_) (fun cdv A outer s H vs Q E hr h => ?_)
  · obtain ⟨p, n, rfl, _⟩ := h
    rfl
  · obtain ⟨p, n, rfl, hb, hn, k⟩ := h
    refine ⟨_, (pss_cons (ps_set (i := 1) sc_w_step.nd rfl (Or.inl rfl) (ok_call (ok_w_fraction T) (hr.mono (by decide)) rfl T.g_w_fraction passL (pa_cons (pv 0) pa_nil)))
      (pss_one (ps_ret (pe_ifExp (pt_cmpR op_gt (pe_ix ix_tup (pv 1) pe_int (fun _ _ => rfl)) pe_int (nomark _)) (pv 1) (ok_call (ok_w_frac T) (hr.mono (by decide)) rfl T.g_w_frac passL (pa_cons (pe_op op_sub pe_int (pe_ix ix_tup (pv 1) pe_int (fun _ _ => rfl))) (pa_cons (pe_ix ix_tup (pv 1) pe_int (fun _ _ => rfl)) pa_nil))))))), ?_⟩
    refine ⟨_, rfl, p, n, rfl, hb, hn, fun v q H1 x1 b1 hq fq => ?_⟩
    obtain ⟨a, rfl, ha⟩ := id hq
    refine ⟨_, rfl, a, _, 0, _, rfl, rfl, SqT.of ha, rfl, _, _, rfl, rfl, _, rfl, ?_⟩
    refine ite2 (fun h1 => ?_) (fun h1 => ?_)
    · have h1' : 0 < q.num := of_decide_eq_true h1
      exact ⟨_, rfl, k _ q H1 x1 b1 hq ⟨fq.mono (by decide), num_pos h1'⟩⟩
    · have h1' : ¬ 0 < q.num := of_decide_eq_false (by simpa using h1)
      have bq := fq.bits (by decide)
      refine ⟨_, rfl, a, _, 0, _, rfl, rfl, SqT.of ha, rfl, _, _, rfl, rfl, _, rfl, a, _, 1, _, rfl, rfl, SqT.of ha, rfl, 1 - q.num, q.den, rfl, den_ne q, ?_, ?_, fun u H2 s2 hu e2 => ?_⟩
      · have := bq.1
        have z : (2 : Nat) ^ 60 + 1 < 2 ^ 8000 := by decide +kernel
        omega
      · exact Nat.lt_trans (den_bits bq) (by decide +kernel)
      · exact k _ _ H2 (x1.trans (sameX_of s2)) (b1.up s2) ⟨u, rfl, e2⟩ (step_val fq h1')
end
end K09

set_option maxHeartbeats 4000000
namespace K09
open PySem PySem.Spec PyProof.Rows L2 AT
/-! ### the law's own points -/
def LP (H : Hp) (v : V) (p : Rat × Rat) : Prop := ∃ t x y, v = .ref t ∧ H t = some (.tup [x, y]) ∧ PQ H x p.1 ∧ PQ H y p.2
inductive LPs (H : Hp) : List V → List (Rat × Rat) → Prop
  | nil : LPs H [] []
  | cons {v : V} {p : Rat × Rat} {vs : List V} {ps : List (Rat × Rat)} : LP H v p → LPs H vs ps → LPs H (v :: vs) (p :: ps)
/-- the tuples stay -/
def SameT (H H' : Hp) : Prop := ∀ b xs, H b = some (.tup xs) → H' b = some (.tup xs)
theorem SameT.trans {H H1 H2 : Hp} (a : SameT H H1) (b : SameT H1 H2) : SameT H H2 := fun x xs e => b x xs (a x xs e)
theorem sameT_of {H H' : Hp} (s : Same H H') : SameT H H' := fun b xs e => s _ _ e
theorem sameT_box {H H' : Hp} {p : Addr} {n : Nat} (b : BoxAt H p n) (s : SameX p H H') : SameT H H' := fun x xs e => s _ _ (by
  rintro rfl
  obtain ⟨_, _, _, e2, _⟩ := b
  rw [e] at e2
  cases e2) e
theorem sameT_set {H : Hp} {D : Addr} {ys zs : List V} (h : H D = some (.lst ys)) : SameT H (upd H D (.lst zs)) := fun x xs e => by
  rw [upd_ne (by rintro rfl; rw [e] at h; cases h)]
  exact e
theorem PQ.upT {H H' : Hp} {v : V} {q : Rat} (h : PQ H v q) (s : SameT H H') : PQ H' v q := h.imp fun _ z => ⟨z.1, s _ _ z.2⟩
theorem LP.upT {H H' : Hp} {v : V} {p : Rat × Rat} (h : LP H v p) (s : SameT H H') : LP H' v p := by
  obtain ⟨t, x, y, e, h1, h2, h3⟩ := h
  exact ⟨t, x, y, e, s _ _ h1, h2.upT s, h3.upT s⟩
theorem LPs.upT {H H' : Hp} {vs : List V} {ps : List (Rat × Rat)} (h : LPs H vs ps) (s : SameT H H') : LPs H' vs ps := by
  induction h with
  | nil => exact .nil
  | cons a b ih => exact .cons (a.upT s) ih
theorem LPs.app {H : Hp} {vs : List V} {ps : List (Rat × Rat)} {v : V} {p : Rat × Rat} (h : LPs H vs ps) (g : LP H v p) : LPs H (vs ++ [v]) (ps ++ [p]) := by
  induction h with
  | nil => exact .cons g .nil
  | cons a b ih => exact .cons a ih
theorem LPs.length {H : Hp} {vs : List V} {ps : List (Rat × Rat)} (h : LPs H vs ps) : vs.length = ps.length := by
  induction h with
  | nil => rfl
  | cons a b ih => simp [ih]
theorem SameX.new {p D : Addr} {H H' : Hp} {o : HO} (s : SameX p H H') (hD : H D = none) : SameX p H (upd H' D o) := fun b u hb e => by
  rw [upd_ne (ne_of_none e hD)]
  exact s b u hb e
theorem BoxAt.new {p D : Addr} {H : Hp} {n : Nat} {o : HO} (h : BoxAt H p n) (hD : D ≠ p) : BoxAt (upd H D o) p n := by
  obtain ⟨a, b, c, e, r⟩ := h
  exact ⟨a, b, c, by rw [upd_ne (Ne.symm hD)]; exact e, r⟩
theorem rising_app : ∀ {ps : List (Rat × Rat)} {q : Rat × Rat}, Rising ps → (∀ l, ps.getLast? = some l → Below l q) → Rising (ps ++ [q])
  | [], _, _, _ => trivial
  | [p], q, _, h => ⟨h p rfl, trivial⟩
  | p :: r :: l, q, h, g => ⟨h.1, rising_app (ps := r :: l) h.2 fun x e => g x (by rw [List.getLast?_cons_cons]; exact e)⟩
def FineP (m : Nat) (p : Rat × Rat) : Prop := Fine m p.1 ∧ Fine m p.2
section
variable {P : Program} {w : World} {K : PySem.W.Frag} {mg : Str → Option Value} {base : Heap}
def spPts : Sp := fun vs H Q _ => ∃ (p : Addr) (n : Nat) (cap : Nat), vs = [.ref p, .int cap] ∧ BoxAt H p n ∧ n ≤ 1000 ∧ cap ≤ 10 ∧ ∀ D vs ps H', SameX p H H' → H D = none → BoxAt H' p (n + 500) → H' D = some (.lst vs) → LPs H' vs ps → Rising ps → ps.length ≤ cap → (∀ q ∈ ps, FineP 20000 q) → Q (.ref D) H'
def PvP (p D : Addr) (H : Hp) (n cap i : Nat) (σ' : L2.St) (H' : Hp) : Prop := ∃ (vb vc : V) (ws : List V) (ps : List (Rat × Rat)) (b c : Rat) (o5 o6 : Option V), σ' = ([some (.ref p), some (.int cap), some (.ref D), some vb, some vc, o5, o6] : L2.St) ∧ SameX p H H' ∧ BoxAt H' p (n + 7 + 20 * i) ∧ H' D = some (.lst ws) ∧ LPs H' ws ps ∧ ps.length = i ∧ Rising ps ∧ (∀ q ∈ ps, FineP 20000 q) ∧ PQ H' vb b ∧ PQ H' vc c ∧ Fine (900 + 901 * i) b ∧ Fine (900 + 901 * i) c ∧ ∀ l, ps.getLast? = some l → Below l (b, c)
theorem below_add {b c x y : Rat} (hx : 0 < x) (hy : 0 < y) : Below (b, c) (b + x, c + y) := ⟨by show b < b + x; grind, by show c < c + y; grind⟩
theorem sc_w_points : FnScope ["_law_bag_here", "_law_cap", "_law_found", "_law_beat", "_law_second", "_law_index", "_law_way"] ["_law_bag_here", "_law_cap"] (defScope s_w_points) := ⟨rfl, rfl, rfl, by decide +kernel, rfl, by decide +kernel, by decide +kernel⟩
theorem ok_w_points (T : Tx K mg base) : Ok P w K mg base 4 (d_w_points.loc K) ["_law_bag_here", "_law_cap"] spPts := by
  refine mk_ok (k := 3) T.f_w_points sc_w_points (fun _ _ _ _ _ _ us hl => match us, hl with | [_, _], _ => rfl) (fun vs H Q E h => ?_) (fun cdv A outer s H vs Q E hr h => ?_)
  · obtain ⟨p, n, cap, rfl, _⟩ := h
    rfl
  · obtain ⟨p, n, cap, rfl, hb, hn, hcap, k⟩ := h
    refine ⟨_, (pss_cons (ps_par3 (by rfl) sc_w_points.nd (i := 2) (j := 3) (l := 4) rfl rfl rfl (by decide) (by decide) (by decide) rfl rfl rfl (pa_cons (pe_lst pa_nil) (pa_cons (ok_call (ok_w_fraction T) (hr.mono (by decide)) rfl T.g_w_fraction passL (pa_cons (pv 0) pa_nil)) (pa_cons (ok_call (ok_w_fraction T) (hr.mono (by decide)) rfl T.g_w_fraction passL (pa_cons (pv 0) pa_nil)) pa_nil))) (by rfl))
      (pss_cons (ps_for (passes_of rfl) rfl (pi_range1 (by rfl) T.b_range (pa_cons (ok_call (ok_w_take T) (hr.mono (by decide)) rfl T.g_w_take passL (pa_cons (pv 0) (pa_cons (pe_op op_add (pv 1) pe_int) pa_nil))) pa_nil)) (pg_name (i := 5) sc_w_points.nd rfl (Or.inl rfl)) (pss_cons (ps_expr (pe_bm PySem.F.plainAttrs_list PySem.F.slot_list_append PySem.F.type_list_append mt_append (pv 2) (pa_cons (pe_tup (pa_cons (pv 3) (pa_cons (pv 4) pa_nil))) pa_nil)))
      (pss_cons (ps_set (i := 3) sc_w_points.nd rfl (Or.inl rfl) (ok_call (ok_w_sum T) (hr.mono (by decide)) rfl T.g_w_sum passL (pa_cons (pv 3) (pa_cons (ok_call (ok_w_step T) (hr.mono (by decide)) rfl T.g_w_step passL (pa_cons (pv 0) pa_nil)) pa_nil))))
      (pss_cons (ps_set (i := 6) sc_w_points.nd rfl (Or.inl rfl) (ok_call (ok_w_take T) (hr.mono (by decide)) rfl T.g_w_take passL (pa_cons (pv 0) (pa_cons pe_int pa_nil))))
      (pss_one (ps_set (i := 4) sc_w_points.nd rfl (Or.inl rfl) (pe_ifExp (pt_cmpR op_gt (pv 6) pe_int (nomark _)) (ok_call (ok_w_sum T) (hr.mono (by decide)) rfl T.g_w_sum passL (pa_cons (pv 4) (pa_cons (ok_call (ok_w_step T) (hr.mono (by decide)) rfl T.g_w_step passL (pa_cons (pv 0) pa_nil)) pa_nil))) (ok_call (ok_w_sum T) (hr.mono (by decide)) rfl T.g_w_sum passL (pa_cons (pv 4) (pa_cons (ok_call (ok_w_rest T) (hr.mono (by decide)) rfl T.g_w_rest passL (pa_cons (pv 3) (pa_cons (pe_ix ix_tup (pe_ix ix_list (pv 2) (pe_un un_neg pe_int) (fun _ _ => rfl)) pe_int (fun _ _ => rfl)) pa_nil))) pa_nil))))))))))
      (pss_one (ps_ret (pv 2))))), ?_⟩
    have hsz : sizeLine = 16777216 := sizeLine_eq
    refine ⟨Nat.zero_le _, fun D hD => ?_⟩
    have hDp := box_ne hb hD
    refine ⟨_, rfl, p, n, rfl, hb.new hDp, (by omega), fun v1 q1 H1 x1 b1 pq1 f1 => ?_⟩
    refine ⟨_, rfl, p, _, rfl, b1, (by omega), fun v2 q2 H2 x2 b2 pq2 f2 => ?_⟩
    have hD3 : H2 D = some (.lst []) := x2 _ _ hDp (x1 _ _ hDp upd_same)
    have sx3 : SameX p H H2 := ((SameX.new (SameX.refl p H) hD).trans x1).trans x2
    have pq1' := pq1.upX b1 x2
    refine ⟨_, _, _, rfl, ?_⟩
    have b3 := b2
    refine ⟨_, rfl, _, rfl, _, _, rfl, rfl, p, _, _, rfl, b3, (by omega), (by omega), big1 (by omega), fun r H4 c1 c2 x4 b4 => ?_⟩
    refine ⟨r, rfl, (by omega), (by omega), for_range (lo := 0) (n := r.toNat) (PvP p D H n cap) ?_ ?_ ?_⟩
    · refine ⟨v1, v2, [], [], q1, q2, _, _, rfl, sx3.trans x4, b4.mono (by omega), x4 _ _ hDp hD3, .nil, rfl, trivial, (fun _ h => nomatch h), pq1'.upX b3 x4, pq2.upX b3 x4, f1.mono (by omega), f2.mono (by omega), (fun _ h => nomatch h)⟩
    · rintro i σ' H' hi ⟨vb, vc, ws, ps, b, c, o5, o6, rfl, sx, bx, hl, lp, lps, hris, hfine, pb, pc, fb, fc, hlast⟩
      have i10 : i < 10 := by omega
      have lw := lp.length
      refine ⟨_, rfl, tyV_lst hl, _, rfl, _, rfl, (by show 2 ≤ sizeLine; decide), fun tn htn => ?_⟩
      have sA := AT.Same.up (o := .tup [vb, vc]) htn
      have hlA := sA _ _ hl
      refine ⟨D, ws, _, rfl, rfl, hlA, (by omega), ?_⟩
      have tA : SameT H' (upd (upd H' tn (.tup [vb, vc])) D (.lst (ws ++ [.ref tn]))) := (sameT_of sA).trans (sameT_set hlA)
      have bA : BoxAt (upd (upd H' tn (.tup [vb, vc])) D (.lst (ws ++ [.ref tn]))) p (n + 7 + 20 * i) := (bx.up sA).new hDp
      have xA : SameX p H (upd (upd H' tn (.tup [vb, vc])) D (.lst (ws ++ [.ref tn]))) := SameX.new (sx.trans (sameX_of sA)) hD
      have ntD : tn ≠ D := by rintro rfl; rw [hl] at htn; cases htn
      have hlB : upd (upd H' tn (.tup [vb, vc])) D (.lst (ws ++ [.ref tn])) D = some (.lst (ws ++ [.ref tn])) := upd_same
      have htB : upd (upd H' tn (.tup [vb, vc])) D (.lst (ws ++ [.ref tn])) tn = some (.tup [vb, vc]) := by rw [upd_ne ntD]; exact upd_same
      generalize upd (upd H' tn (.tup [vb, vc])) D (.lst (ws ++ [.ref tn])) = HA at tA bA xA hlB htB ⊢
      have lpA : LPs HA (ws ++ [.ref tn]) (ps ++ [(b, c)]) := (lp.upT tA).app ⟨tn, vb, vc, rfl, htB, pb.upT tA, pc.upT tA⟩
      have bb : Bits 3000 b := (fb.bits (by omega)).mono (by decide)
      have bc : Bits 3000 c := (fc.bits (by omega)).mono (by decide)
      -- beat
      refine ⟨_, rfl, _, rfl, p, _, rfl, bA, (by omega), fun v3 st HB xB bB p3 f3 => ?_⟩
      obtain ⟨f3, z3⟩ := f3
      have b3' : Bits 3000 st := (f3.bits (by decide)).mono (by decide)
      refine ⟨vb, v3, b, st, rfl, (pb.upT tA).upX bA xB, p3, bb, b3', fun v4 HC sC p4 => ?_⟩
      have tC : SameT HA HC := (sameT_box bA xB).trans (sameT_of sC)
      have xC : SameX p HA HC := xB.trans (sameX_of sC)
      have bC := bB.up sC
      have f4 : Fine (900 + 901 * i + 901) (b + st) := fb.add f3
      -- way
      refine ⟨_, rfl, p, _, _, rfl, bC, (by omega), (by decide), (by decide +kernel), fun rw HD d1 d2 xD bD => ?_⟩
      have tD : SameT HA HD := tC.trans (sameT_box bC xD)
      have xD' : SameX p HA HD := xC.trans xD
      have p4D : PQ HD v4 (b + st) := p4.upX bC xD
      have hlD : HD D = some (.lst (ws ++ [.ref tn])) := xD' _ _ hDp hlB
      have fin : ∀ (v5 : V) (s5 : Rat) (HE : Hp) (o5 : Option V), SameT HD HE → SameX p HD HE → BoxAt HE p (n + 7 + 20 * (i + 1)) → PQ HE v5 (c + s5) → Fine 901 s5 → 0 < s5 → PvP p D H n cap (i + 1) ([some (.ref p), some (.int cap), some (.ref D), some v4, some v5, o5, some (.int rw)] : L2.St) HE := by
        intro v5 s5 HE o5 tE xE bE p5 f5 z5
        refine ⟨v4, v5, ws ++ [.ref tn], ps ++ [(b, c)], b + st, c + s5, o5, _, rfl, (xA.trans xD').trans xE, bE, xE _ _ hDp hlD, lpA.upT (tD.trans tE), (by rw [List.length_append, lps]; rfl), rising_app hris hlast, ?_, p4D.upT tE, p5, f4.mono (by omega), (fc.add f5).mono (by omega), ?_⟩
        · intro q hq
          rcases List.mem_append.mp hq with z | z
          · exact hfine q z
          · rw [List.mem_singleton.mp z]
            exact ⟨fb.mono (by omega), fc.mono (by omega)⟩
        · intro l hl
          rw [List.getLast?_append] at hl
          simp at hl
          subst hl
          exact below_add z3 z5
      refine ⟨_, rfl, _, _, rfl, rfl, _, rfl, ?_⟩
      refine ite2 (fun h1 => ?_) (fun h1 => ?_)
      · refine ⟨_, rfl, _, rfl, p, _, rfl, bD, (by omega), fun v5 s5 HE xE bE p5 f5 => ?_⟩
        obtain ⟨f5, z5⟩ := f5
        refine ⟨vc, v5, c, s5, rfl, (pc.upT (tA.trans tD)).upX bD xE, p5, bc, (f5.bits (by decide)).mono (by decide), fun v6 HF sF p6 => ?_⟩
        exact fin v6 s5 HF _ ((sameT_box bD xE).trans (sameT_of sF)) (xE.trans (sameX_of sF)) ((bE.up sF).mono (by omega)) p6 f5 z5
      · refine ⟨_, rfl, _, rfl, _, rfl, _, rfl, D, _, _, _, rfl, rfl, SqL.of hlD, at_last (x := .ref tn) (by rw [List.getLast?_append]; rfl), tn, _, 0, _, rfl, rfl, SqT.of (tD _ _ htB), rfl, v4, vb, b + st, b, rfl, p4D, pb.upT (tA.trans tD), (f4.bits (by omega)).mono (by decide), bb, fun v5 HE sE p5 => ?_⟩
        have e5 : b + st - b = st := by grind
        have p5 : PQ HE v5 (b + st - b) := p5
        rw [e5] at p5
        refine ⟨vc, v5, c, st, rfl, (pc.upT (tA.trans tD)).up sE, p5, bc, b3', fun v6 HF sF p6 => ?_⟩
        exact fin v6 st HF _ (sameT_of (sE.trans sF)) (sameX_of (sE.trans sF)) ((bD.up (sE.trans sF)).mono (by omega)) p6 f3 z3
    · rintro σ' H' ⟨vb, vc, ws, ps, b, c, o5, o6, rfl, sx, bx, hl, lp, lps, hris, hfine, pb, pc, fb, fc, hlast⟩
      exact ⟨_, rfl, k D ws ps H' sx hD (bx.mono (by omega)) hl lp hris (by omega) hfine⟩
end
end K09

set_option maxHeartbeats 4000000
namespace K09
open PySem PySem.Spec PyProof.Rows L2 AT
section
variable {P : Program} {w : World} {K : PySem.W.Frag} {mg : Str → Option Value} {base : Heap}
def spLess : Sp := fun vs H Q _ => ∃ v1 v2 x y, vs = [v1, v2] ∧ PQ H v1 x ∧ PQ H v2 y ∧ Bits 3000 x ∧ Bits 3000 y ∧ Q (.bl (decide (x < y))) H
theorem sc_w_less : FnScope ["_law_one", "_law_other"] ["_law_one", "_law_other"] (defScope s_w_less) := ⟨rfl, rfl, rfl, by decide +kernel, rfl, by decide +kernel, by decide +kernel⟩
theorem ok_w_less (T : Tx K mg base) : Ok P w K mg base 1 (d_w_less.loc K) ["_law_one", "_law_other"] spLess := by
  refine mk_ok (k := 0) T.f_w_less sc_w_less (fun _ _ _ _ _ _ us hl => match us, hl with | [_, _], _ => rfl) (fun vs H Q E h => ?_) (fun cdv A outer s H vs Q E hr h => ?_)
  · obtain ⟨v1, v2, x, y, rfl, _⟩ := h
    rfl
  · obtain ⟨_, _, x, y, rfl, ⟨a, rfl, ha⟩, ⟨b, rfl, hb⟩, bx, by_, k⟩ := h
    refine ⟨_, (pss_one (ps_ret (pe_cmpR op_lt (pe_op op_mulW (pe_ix ix_tup (pv 0) pe_int (fun _ _ => rfl)) (pe_ix ix_tup (pv 1) pe_int (fun _ _ => rfl))) (pe_op op_mulW (pe_ix ix_tup (pv 1) pe_int (fun _ _ => rfl)) (pe_ix ix_tup (pv 0) pe_int (fun _ _ => rfl))) (nomark _)))), ?_⟩
    refine ⟨_, rfl, a, _, 0, _, rfl, rfl, SqT.of ha, rfl, _, rfl, b, _, 1, _, rfl, rfl, SqT.of hb, rfl, _, _, rfl, rfl, mul4 bx.1 (den_bits by_), _, rfl, b, _, 0, _, rfl, rfl, SqT.of hb, rfl, _, rfl, a, _, 1, _, rfl, rfl, SqT.of ha, rfl, _, _, rfl, rfl, mul4 by_.1 (den_bits bx), _, _, rfl, rfl, ?_⟩
    have e : decide (x.num * (y.den : Int) < y.num * (x.den : Int)) = decide (x < y) := by rw [decide_eq_decide, Rat.lt_iff]
    rw [← e] at k
    exact k
theorem sc_w_product : FnScope ["_law_one", "_law_other"] ["_law_one", "_law_other"] (defScope s_w_product) := ⟨rfl, rfl, rfl, by decide +kernel, rfl, by decide +kernel, by decide +kernel⟩
theorem ok_w_product (T : Tx K mg base) : Ok P w K mg base 2 (d_w_product.loc K) ["_law_one", "_law_other"] (spTwo fun x y => x * y) := by
  refine mk_ok (k := 1) T.f_w_product sc_w_product (fun _ _ _ _ _ _ us hl => match us, hl with | [_, _], _ => rfl) (fun vs H Q E h => ?_) (fun cdv A outer s H vs Q E hr h => ?_)
  · obtain ⟨v1, v2, x, y, rfl, _⟩ := h
    rfl
  · obtain ⟨_, _, x, y, rfl, ⟨a, rfl, ha⟩, ⟨b, rfl, hb⟩, bx, by_, k⟩ := h
    refine ⟨_, (pss_one (ps_ret (ok_call (ok_w_frac T) (hr.mono (by decide)) rfl T.g_w_frac passL (pa_cons (pe_op op_mulW (pe_ix ix_tup (pv 0) pe_int (fun _ _ => rfl)) (pe_ix ix_tup (pv 1) pe_int (fun _ _ => rfl))) (pa_cons (pe_op op_mulW (pe_ix ix_tup (pv 0) pe_int (fun _ _ => rfl)) (pe_ix ix_tup (pv 1) pe_int (fun _ _ => rfl))) pa_nil))))), ?_⟩
    have m1 := mul_bits bx.1 by_.1
    have m3 := mul_bits (den_bits bx) (den_bits by_)
    refine ⟨_, rfl, a, _, 0, _, rfl, rfl, SqT.of ha, rfl, _, rfl, b, _, 0, _, rfl, rfl, SqT.of hb, rfl, _, _, rfl, rfl, mul4 bx.1 by_.1, _, rfl, a, _, 1, _, rfl, rfl, SqT.of ha, rfl, _, rfl, b, _, 1, _, rfl, rfl, SqT.of hb, rfl, _, _, rfl, rfl, mul4 (den_bits bx) (den_bits by_), _, _, rfl, Int.mul_ne_zero (den_ne x) (den_ne y), ?_, ?_, fun q H' s hq e => ?_⟩
    · exact Nat.lt_trans m1 (by decide +kernel)
    · exact Nat.lt_trans m3 (by decide +kernel)
    · refine k _ _ s ⟨q, rfl, ?_⟩
      rw [e]
      exact congrArg (fun z => some (pairQ z)) (q_mul x y)
def spQuo : Sp := fun vs H Q _ => ∃ v1 v2 x y, vs = [v1, v2] ∧ PQ H v1 x ∧ PQ H v2 y ∧ Bits 3000 x ∧ Bits 3000 y ∧ y ≠ 0 ∧ ∀ v H', Same H H' → PQ H' v (x / y) → Q v H'
theorem sc_w_quotient : FnScope ["_law_one", "_law_other"] ["_law_one", "_law_other"] (defScope s_w_quotient) := ⟨rfl, rfl, rfl, by decide +kernel, rfl, by decide +kernel, by decide +kernel⟩
theorem ok_w_quotient (T : Tx K mg base) : Ok P w K mg base 2 (d_w_quotient.loc K) ["_law_one", "_law_other"] spQuo := by
  refine mk_ok (k := 1) T.f_w_quotient sc_w_quotient (fun _ _ _ _ _ _ us hl => match us, hl with | [_, _], _ => rfl) (fun vs H Q E h => ?_) (fun cdv A outer s H vs Q E hr h => ?_)
  · obtain ⟨v1, v2, x, y, rfl, _⟩ := h
    rfl
  · obtain ⟨_, _, x, y, rfl, ⟨a, rfl, ha⟩, ⟨b, rfl, hb⟩, bx, by_, hy, k⟩ := h
    refine ⟨_, (pss_one (ps_ret (ok_call (ok_w_frac T) (hr.mono (by decide)) rfl T.g_w_frac passL (pa_cons (pe_op op_mulW (pe_ix ix_tup (pv 0) pe_int (fun _ _ => rfl)) (pe_ix ix_tup (pv 1) pe_int (fun _ _ => rfl))) (pa_cons (pe_op op_mulW (pe_ix ix_tup (pv 0) pe_int (fun _ _ => rfl)) (pe_ix ix_tup (pv 1) pe_int (fun _ _ => rfl))) pa_nil))))), ?_⟩
    have m1 := mul_bits bx.1 (den_bits by_)
    have m3 := mul_bits (den_bits bx) by_.1
    refine ⟨_, rfl, a, _, 0, _, rfl, rfl, SqT.of ha, rfl, _, rfl, b, _, 1, _, rfl, rfl, SqT.of hb, rfl, _, _, rfl, rfl, mul4 bx.1 (den_bits by_), _, rfl, a, _, 1, _, rfl, rfl, SqT.of ha, rfl, _, rfl, b, _, 0, _, rfl, rfl, SqT.of hb, rfl, _, _, rfl, rfl, mul4 (den_bits bx) by_.1, _, _, rfl, Int.mul_ne_zero (den_ne x) (num_ne hy), ?_, ?_, fun q H' s hq e => ?_⟩
    · exact Nat.lt_trans m1 (by decide +kernel)
    · exact Nat.lt_trans m3 (by decide +kernel)
    · refine k _ _ s ⟨q, rfl, ?_⟩
      rw [e]
      exact congrArg (fun z => some (pairQ z)) (q_div x y)
def spPair (K : PySem.W.Frag) : Sp := fun vs H Q _ => ∃ a q, vs = [.ref a] ∧ IsQ K H a q ∧ ∀ v H', Same H H' → PQ H' v q → Q v H'
theorem sc_w_pair : FnScope ["_law_amount"] ["_law_amount"] (defScope s_w_pair) := ⟨rfl, rfl, rfl, by decide +kernel, rfl, by decide +kernel, by decide +kernel⟩
theorem ok_w_pair (T : Tx K mg base) : Ok P w K mg base 3 (d_w_pair.loc K) ["_law_amount"] (spPair K) := by
  refine mk_ok (k := 2) T.f_w_pair sc_w_pair (fun _ _ _ _ _ _ us hl => match us, hl with | [_], _ => rfl) (fun vs H Q E h => ?_) (fun cdv A outer s H vs Q E hr h => ?_)
  · obtain ⟨a, q, rfl, _⟩ := h
    rfl
  · obtain ⟨a, q, rfl, ha, k⟩ := h
    refine ⟨_, (pss_one (ps_ret (pe_ifExp (pt_val (pe_callB call_isi (by rfl) T.b_isinstance (by decide +kernel) (pa_cons (pv 0) (pa_cons (pe_gr T.g_Amount) pa_nil)))) (pe_tup (pa_cons (ok_prop T.cls_Amount T.pr_Amount_top (ok_Amount_top T) (hr.mono (by decide)) (pv 0)) (pa_cons (ok_prop T.cls_Amount T.pr_Amount_bottom (ok_Amount_bottom T) (hr.mono (by decide)) (pv 0)) pa_nil))) pe_non))), ?_⟩
    obtain ⟨da, ha1⟩ := id ha
    refine ⟨_, rfl, _, _, _, _, _, rfl, .own _, T.ins_Amount ha1, T.k_Amount_Amount, _, rfl, iteT ?_⟩
    refine ⟨_, rfl, a, da, _, rfl, ha1, a, q, rfl, ha, _, rfl, a, da, _, rfl, ha1, a, q, rfl, ha, (by show 2 ≤ sizeLine; decide), fun t ht => ?_⟩
    exact k _ _ (AT.Same.up ht) ⟨t, rfl, upd_same⟩
theorem whole_q {x : Rat} (h : (x.den : Int) = 1) : ((x.num : Int) : Rat) = x := by
  rw [← q_int, ← h]
  exact q_self x
def spGiven (K : PySem.W.Frag) : Sp := fun vs H Q _ => ∃ (p : Addr) (n : Nat) (v : V) (x : Rat), vs = [.ref p, v] ∧ BoxAt H p n ∧ n ≤ 10000 ∧ PQ H v x ∧ Bits 400 x ∧ ∀ u H', SameX p H H' → BoxAt H' p (n + 1) → Qv K H' u x → (∀ a, u = .ref a → H a = none) → Q u H'
theorem sc_w_given : FnScope ["_law_bag_here", "_law_value"] ["_law_bag_here", "_law_value"] (defScope s_w_given) := ⟨rfl, rfl, rfl, by decide +kernel, rfl, by decide +kernel, by decide +kernel⟩
theorem ok_w_given (T : Tx K mg base) : Ok P w K mg base 5 (d_w_given.loc K) ["_law_bag_here", "_law_value"] (spGiven K) := by
  refine mk_ok (k := 4) T.f_w_given sc_w_given (fun _ _ _ _ _ _ us hl => match us, hl with | [_, _], _ => rfl) (fun vs H Q E h => ?_) (fun cdv A outer s H vs Q E hr h => ?_)
  · obtain ⟨p, n, v, x, rfl, _⟩ := h
    rfl
  · obtain ⟨p, n, _, x, rfl, hb, hn, ⟨a, rfl, ha⟩, bx, k⟩ := h
    refine ⟨_, (pss_one (ps_ret (pe_ifExp (PW.pt (pw_and (pt_cmpR op_eq (pe_ix ix_tup (pv 1) pe_int (fun _ _ => rfl)) pe_int (nomark _)) (pw_and1 (pt_cmpR op_eq (ok_call (ok_w_take T) (hr.mono (by decide)) rfl T.g_w_take passL (pa_cons (pv 0) (pa_cons pe_int pa_nil))) pe_int (nomark _))))) (pe_ix ix_tup (pv 1) pe_int (fun _ _ => rfl)) (ok_make T.mkr_Amount (ok_Amount_init_ T) (hr.mono (by decide)) rfl T.g_Amount (passE rfl rfl rfl rfl) (pa_cons (pe_ix ix_tup (pv 1) pe_int (fun _ _ => rfl)) (pa_cons (pe_ix ix_tup (pv 1) pe_int (fun _ _ => rfl)) pa_nil)))))), ?_⟩
    have nap : a ≠ p := by
      rintro rfl
      obtain ⟨_, _, _, e2, _⟩ := hb
      rw [ha] at e2
      cases e2
    have big8 : ((x.den : Int)).natAbs < 2 ^ 8000 := Nat.lt_trans (den_bits bx) (Nat.pow_lt_pow_right (by decide) (by decide))
    have mk : ∀ (H1 : Hp), SameX p H H1 → BoxAt H1 p (n + 1) → ∀ u e, H1 u = none → H1 e = none → Q (.ref u) (upd (upd (upd H1 e (.own u)) u (.ins (cA K) e [])) u (.ins (cA K) e (amtQ (Rat.divInt x.num x.den)))) := by
      intro H1 x1 b1 u e gu ge
      refine k _ _ (x1.trans (sameX_of (made_same gu ge))) (b1.up (made_same gu ge)) (.obj ⟨e, ?_⟩) ?_
      · rw [upd_same, q_self]
      · rintro z hz
        cases hz
        cases q : H u with
        | none => rfl
        | some o =>
          have := x1 u o (by rintro rfl; obtain ⟨_, _, _, e2, _⟩ := b1; rw [gu] at e2; cases e2) q
          rw [gu] at this
          cases this
    refine ⟨_, rfl, a, _, 1, _, rfl, rfl, SqT.of ha, rfl, rfl, _, rfl, ?_⟩
    by_cases h1 : (x.den : Int) = 1
    · rw [decide_eq_true (show V.int (x.den : Int) = V.int 1 by rw [h1])]
      refine iteT ⟨_, rfl, p, _, _, rfl, hb, (by omega), (by decide), (by decide +kernel), fun r H1 c1 c2 x1 b1 => ?_⟩
      refine ⟨rfl, _, rfl, ite2 (fun h2 => ?_) (fun h2 => ?_)⟩
      · refine ⟨_, rfl, a, _, 0, _, rfl, rfl, SqT.of (x1 _ _ nap ha), rfl, k _ _ x1 b1 ?_ (fun _ e => nomatch e)⟩
        have e := Qv.int (K := K) (H := H1) x.num
        rw [whole_q h1] at e
        exact e
      · have ha1 := x1 _ _ nap ha
        exact ⟨_, rfl, a, _, 0, _, rfl, rfl, SqT.of ha1, rfl, _, rfl, a, _, 1, _, rfl, rfl, SqT.of ha1, rfl, fun u e gu ge _ => ⟨u, e, _, _, rfl, upd_same, .int _, .int _, .inl ⟨_, _, rfl, rfl, den_ne x, big8, rfl, mk H1 x1 b1 u e gu ge⟩⟩⟩
    · rw [decide_eq_false (fun z => h1 (V.int.inj z))]
      exact iteF (iteF ⟨_, rfl, a, _, 0, _, rfl, rfl, SqT.of ha, rfl, _, rfl, a, _, 1, _, rfl, rfl, SqT.of ha, rfl, fun u e gu ge _ => ⟨u, e, _, _, rfl, upd_same, .int _, .int _, .inl ⟨_, _, rfl, rfl, den_ne x, big8, rfl, mk H (SameX.refl p H) (hb.mono (by omega)) u e gu ge⟩⟩⟩)
end
end K09

set_option maxHeartbeats 4000000
namespace K09
open PySem PySem.Spec PyProof.Rows L2 AT
section
variable {P : Program} {w : World} {K : PySem.W.Frag} {mg : Str → Option Value} {base : Heap}
theorem LP.up {H H' : Hp} {v : V} {p : Rat × Rat} (h : LP H v p) (s : Same H H') : LP H' v p := h.upT (sameT_of s)
theorem LPs.up {H H' : Hp} {vs : List V} {ps : List (Rat × Rat)} (h : LPs H vs ps) (s : Same H H') : LPs H' vs ps := h.upT (sameT_of s)
theorem LPs.at {H : Hp} {vs : List V} {ps : List (Rat × Rat)} (h : LPs H vs ps) : ∀ {i : Nat} {v : V}, vs[i]? = some v → ∃ p, ps[i]? = some p ∧ LP H v p := by
  induction h with
  | nil => intro i v e; simp at e
  | cons a b ih =>
    intro i v e
    cases i with
    | zero => simp at e; subst e; exact ⟨_, rfl, a⟩
    | succ i => simpa using ih (by simpa using e)
theorem LPs.get {H : Hp} {vs : List V} {ps : List (Rat × Rat)} (h : LPs H vs ps) {i : Nat} {p : Rat × Rat} (e : ps[i]? = some p) : ∃ v, vs[i]? = some v ∧ LP H v p := by
  have hi : i < vs.length := by rw [h.length]; exact (List.getElem?_eq_some_iff.mp e).1
  obtain ⟨q, e2, l⟩ := h.at (List.getElem?_eq_getElem hi)
  rw [e] at e2
  cases e2
  exact ⟨_, List.getElem?_eq_getElem hi, l⟩
/-- the law's points, as a list that stands in the heap -/
structure Lst (H : Hp) (D : Addr) (vs : List V) (ps : List (Rat × Rat)) : Prop where
  at_ : H D = some (.lst vs)
  lps : LPs H vs ps
theorem Lst.up {H H' : Hp} {D : Addr} {vs : List V} {ps : List (Rat × Rat)} (h : Lst H D vs ps) (s : Same H H') : Lst H' D vs ps := ⟨s _ _ h.at_, h.lps.up s⟩
def FinL (ps : List (Rat × Rat)) : Prop := Rising ps ∧ (∀ p ∈ ps, BitsP 400 p) ∧ ps.length ≤ 100
/-- which side of the points a value is of: the second one where b -/
def hI : Bool → Int
  | false => 0
  | true => 1
def tI : Bool → Int
  | false => 1
  | true => 0
def sw1 (b : Bool) (q : Rat × Rat) : Rat × Rat := cond b (q.2, q.1) q
def mk2 (b : Bool) (x y : V) : List V := cond b [y, x] [x, y]
theorem ixH {b : Bool} {x y : V} : atI (mk2 b x y) (hI b) = some x := by cases b <;> rfl
theorem ixT {b : Bool} {x y : V} : atI (mk2 b x y) (tI b) = some y := by cases b <;> rfl
theorem lb_of {b : Bool} {H : Hp} {v : V} {q : Rat × Rat} (h : LP H v (sw1 b q)) : ∃ t x y, v = .ref t ∧ H t = some (.tup (mk2 b x y)) ∧ PQ H x q.1 ∧ PQ H y q.2 := by
  obtain ⟨t, x, y, e, ht, hx, hy⟩ := h
  cases b with
  | false => exact ⟨t, x, y, e, ht, hx, hy⟩
  | true => exact ⟨t, y, x, e, ht, hy, hx⟩
theorem lbs_at {b : Bool} {H : Hp} {vs : List V} {qs : List (Rat × Rat)} (h : LPs H vs (qs.map (sw1 b))) {i : Nat} {v : V} (e : vs[i]? = some v) : ∃ q, qs[i]? = some q ∧ LP H v (sw1 b q) := by
  obtain ⟨p, ep, l⟩ := h.at e
  rw [List.getElem?_map] at ep
  cases eq : qs[i]? with
  | none => rw [eq] at ep; cases ep
  | some q => rw [eq] at ep; cases ep; exact ⟨q, rfl, l⟩
theorem lbs_get {b : Bool} {H : Hp} {vs : List V} {qs : List (Rat × Rat)} (h : LPs H vs (qs.map (sw1 b))) {i : Nat} {q : Rat × Rat} (e : qs[i]? = some q) : ∃ v, vs[i]? = some v ∧ LP H v (sw1 b q) :=
  h.get (by rw [List.getElem?_map, e]; rfl)
def spLedB : Sp := fun vs H Q _ => ∃ D ws qs v x b, vs = [.ref D, v, .int (hI b), .int (tI b)] ∧ Lst H D ws (qs.map (sw1 b)) ∧ FinL qs ∧ PQ H v x ∧ Bits 400 x ∧ ∀ u H', Same H H' → PQ H' u (PL.ledR qs x) → Q u H'
theorem sc_w_led : FnScope ["_law_points_here", "_law_value", "_law_here", "_law_there", "_law_one", "_law_other", "_law_part"] ["_law_points_here", "_law_value", "_law_here", "_law_there"] (defScope s_w_led) := ⟨rfl, rfl, rfl, by decide +kernel, rfl, by decide +kernel, by decide +kernel⟩
theorem okB_w_led (T : Tx K mg base) : Ok P w K mg base 4 (d_w_led.loc K) ["_law_points_here", "_law_value", "_law_here", "_law_there"] spLedB := by
  refine mk_ok (k := 3) T.f_w_led sc_w_led (fun _ _ _ _ _ _ us hl => match us, hl with | [_, _, _, _], _ => rfl) (fun vs H Q E h => ?_) (fun cdv A outer s H vs Q E hr h => ?_)
  · obtain ⟨D, ws, ps, v, x, b, rfl, _⟩ := h
    rfl
  · obtain ⟨D, ws, ps, v, x, b, rfl, ⟨hD, hp⟩, ⟨hris, hbits, hlen⟩, hv, bx, k⟩ := h
    refine ⟨_, (pss_cons (ps_if (pt_cmpR (show OpR _ _ (rEqE K) from op_eqE hr.units) (pv 0) (pe_lst pa_nil) (nomark _)) (pss_one (ps_ret (pv 1))) pss_nil)
      (pss_cons (ps_if (pt_val (ok_call (ok_w_less T) (hr.mono (by decide)) rfl T.g_w_less passL (pa_cons (pv 1) (pa_cons (pe_ix ix_tup (pe_ix ix_list (pv 0) pe_int (fun _ _ => rfl)) (pv 2) (fun _ _ => rfl)) pa_nil)))) (pss_one (ps_ret (ok_call (ok_w_sum T) (hr.mono (by decide)) rfl T.g_w_sum passL (pa_cons (pe_ix ix_tup (pe_ix ix_list (pv 0) pe_int (fun _ _ => rfl)) (pv 3) (fun _ _ => rfl)) (pa_cons (ok_call (ok_w_rest T) (hr.mono (by decide)) rfl T.g_w_rest passL (pa_cons (pv 1) (pa_cons (pe_ix ix_tup (pe_ix ix_list (pv 0) pe_int (fun _ _ => rfl)) (pv 2) (fun _ _ => rfl)) pa_nil))) pa_nil))))) pss_nil)
      (pss_cons (ps_for (passes_of rfl) rfl (RZ.pi_zipA (by rfl) T.b_zip (pa_cons (pv 0) (pa_cons (pe_slice sl_list (pv 0) (po_some pe_int) po_none) pa_nil))) (pg_tup rfl (pgs_cons (pg_name (i := 4) sc_w_led.nd rfl (Or.inl rfl)) (pgs_cons (pg_name (i := 5) sc_w_led.nd rfl (Or.inl rfl)) pgs_nil))) (pss_one (ps_if (PW.pt (pw_and (pt_not (pt_val (ok_call (ok_w_less T) (hr.mono (by decide)) rfl T.g_w_less passL (pa_cons (pv 1) (pa_cons (pe_ix ix_tup (pv 4) (pv 2) (fun _ _ => rfl)) pa_nil))))) (pw_and1 (pt_val (ok_call (ok_w_less T) (hr.mono (by decide)) rfl T.g_w_less passL (pa_cons (pv 1) (pa_cons (pe_ix ix_tup (pv 5) (pv 2) (fun _ _ => rfl)) pa_nil))))))) (pss_cons (ps_set (i := 6) sc_w_led.nd rfl (Or.inl rfl) (ok_call (ok_w_quotient T) (hr.mono (by decide)) rfl T.g_w_quotient passL (pa_cons (ok_call (ok_w_rest T) (hr.mono (by decide)) rfl T.g_w_rest passL (pa_cons (pv 1) (pa_cons (pe_ix ix_tup (pv 4) (pv 2) (fun _ _ => rfl)) pa_nil))) (pa_cons (ok_call (ok_w_rest T) (hr.mono (by decide)) rfl T.g_w_rest passL (pa_cons (pe_ix ix_tup (pv 5) (pv 2) (fun _ _ => rfl)) (pa_cons (pe_ix ix_tup (pv 4) (pv 2) (fun _ _ => rfl)) pa_nil))) pa_nil))))
      (pss_one (ps_ret (ok_call (ok_w_sum T) (hr.mono (by decide)) rfl T.g_w_sum passL (pa_cons (pe_ix ix_tup (pv 4) (pv 3) (fun _ _ => rfl)) (pa_cons (ok_call (ok_w_product T) (hr.mono (by decide)) rfl T.g_w_product passL (pa_cons (pv 6) (pa_cons (ok_call (ok_w_rest T) (hr.mono (by decide)) rfl T.g_w_rest passL (pa_cons (pe_ix ix_tup (pv 5) (pv 3) (fun _ _ => rfl)) (pa_cons (pe_ix ix_tup (pv 4) (pv 3) (fun _ _ => rfl)) pa_nil))) pa_nil))) pa_nil)))))) pss_nil)))
      (pss_one (ps_ret (ok_call (ok_w_sum T) (hr.mono (by decide)) rfl T.g_w_sum passL (pa_cons (pe_ix ix_tup (pe_ix ix_list (pv 0) (pe_un un_neg pe_int) (fun _ _ => rfl)) (pv 3) (fun _ _ => rfl)) (pa_cons (ok_call (ok_w_rest T) (hr.mono (by decide)) rfl T.g_w_rest passL (pa_cons (pv 1) (pa_cons (pe_ix ix_tup (pe_ix ix_list (pv 0) (pe_un un_neg pe_int) (fun _ _ => rfl)) (pv 2) (fun _ _ => rfl)) pa_nil))) pa_nil)))))))), ?_⟩
    have hl := hp.length
    have up : ∀ {q : Rat} {m : Nat}, Bits m q → m ≤ 3000 → Bits 3000 q := fun h l => h.mono l
    refine ⟨_, rfl, Nat.zero_le _, fun z gz => ?_⟩
    have s0 := AT.Same.up (o := .lst []) gz
    refine ⟨ws, ⟨D, z, rfl, rfl, SqL.of (s0 _ _ hD), SqL.of upd_same⟩, _, rfl, ?_⟩
    cases ps with
    | nil =>
      have hp : LPs H ws [] := hp
      cases hp
      exact iteT ⟨_, rfl, k v _ s0 (hv.up s0)⟩
    | cons p r =>
      have hp : LPs H ws (sw1 b p :: r.map (sw1 b)) := hp
      cases hp with
      | @cons w1 _ ws' _ l1 lr =>
      refine iteF ?_
      have hp0 : LPs H (w1 :: ws') ((p :: r).map (sw1 b)) := .cons l1 lr
      obtain ⟨t1, x1, y1, rfl, ht1, hx1, hy1⟩ := lb_of (l1.up s0)
      have hD0 := s0 _ _ hD
      have bp := hbits p (by simp)
      refine ⟨_, rfl, _, rfl, D, _, 0, _, rfl, rfl, SqL.of hD0, atI_nat (j := 0) rfl, _, rfl, t1, _, hI b, _, rfl, rfl, SqT.of ht1, ixH, v, x1, x, p.1, rfl, hv.up s0, hx1, up bx (by decide), up bp.1 (by decide), _, rfl, ?_⟩
      by_cases c : x < p.1
      · rw [decide_eq_true c]
        have e : PL.ledR (p :: r) x = p.2 + (x - p.1) := by rw [PL.led_cons, if_pos c]
        refine iteT ⟨_, rfl, D, _, 0, _, rfl, rfl, SqL.of hD0, atI_nat (j := 0) rfl, _, rfl, t1, _, tI b, _, rfl, rfl, SqT.of ht1, ixT, _, rfl, _, rfl, D, _, 0, _, rfl, rfl, SqL.of hD0, atI_nat (j := 0) rfl, _, rfl, t1, _, hI b, _, rfl, rfl, SqT.of ht1, ixH, v, x1, x, p.1, rfl, hv.up s0, hx1, up bx (by decide), up bp.1 (by decide), fun v2 H2 s2 q2 => ?_⟩
        refine ⟨y1, v2, p.2, x - p.1, rfl, hy1.up s2, q2, up bp.2 (by decide), up (bx.sub bp.1) (by decide), fun v3 H3 s3 q3 => ?_⟩
        have q3 : PQ H3 v3 (p.2 + (x - p.1)) := q3
        rw [← e] at q3
        exact k v3 H3 ((s0.trans s2).trans s3) q3
      · rw [decide_eq_false c]
        have e : PL.ledR (p :: r) x = PL.goQ p r x := by rw [PL.led_cons, if_neg c]
        refine iteF ⟨_, rfl, _, rfl, 1, rfl, D, _, rfl, SqL.of hD0, fun z2 gz2 => ?_⟩
        rw [cut_tail]
        have s1 := AT.Same.up (o := .lst ws') gz2
        have s01 := s0.trans s1
        have hps : LPs H (.ref t1 :: ws') ((p :: r).map (sw1 b)) := hp0
        have hn : ws'.length = min (V.ref t1 :: ws').length ws'.length := by rw [List.length_cons]; omega
        refine ⟨D, z2, .ref t1 :: ws', ws', rfl, .inl ⟨SqL.of (s1 _ _ hD0), SqL.of upd_same, for_it (walk_zip hn) (fun i σ' H' => ∃ o4 o5 p' r', σ' = ([some (.ref D), some v, some (.int (hI b)), some (.int (tI b)), o4, o5, none] : L2.St) ∧ Same (upd (upd H z (.lst [])) z2 (.lst ws')) H' ∧ (p :: r).drop i = p' :: r' ∧ ¬ x < p'.1 ∧ PL.ledR (p :: r) x = PL.goQ p' r' x) ⟨_, _, p, r, rfl, Same.refl _, rfl, c, e⟩ (fun i σ' H' hi hP => ?_) (fun i y σ' H' H2 hi hP hY => ?_) (fun σ' H' hP => ?_)⟩⟩
        · obtain ⟨o4, o5, p', r', rfl, sm, _⟩ := hP
          exact ⟨SqL.of (sm _ _ (s1 _ _ hD0)), SqL.of (sm _ _ upd_same)⟩
        · obtain ⟨o4, o5, p', r', rfl, sm, hdr, hc, he⟩ := hP
          obtain ⟨Tp, x0, y0, rfl, hTp, rfl, hx0, hy0⟩ := hY
          have hx0 : (V.ref t1 :: ws')[i]? = some x0 := hx0
          have hy0 : (V.ref t1 :: ws')[i + 1]? = some y0 := hy0
          have s2 := sm.trans (AT.Same.up (o := .tup [x0, y0]) hTp)
          have sH2 := s01.trans s2
          obtain ⟨p1, ep, lp1⟩ := lbs_at hps hx0
          obtain ⟨p2, eq, lp2⟩ := lbs_at hps hy0
          have e1 : p1 = p' := by
            have z := congrArg (fun l => l[0]?) hdr
            simp only [List.getElem?_drop, Nat.add_zero, ep] at z
            simpa using z
          subst e1
          have e2 : ∃ r2, r' = p2 :: r2 := by
            have z := congrArg (fun l => l[1]?) hdr
            simp only [List.getElem?_drop, eq] at z
            cases r' with
            | nil => simp at z
            | cons q r2 => simp at z; exact ⟨r2, by rw [z]⟩
          obtain ⟨r2, rfl⟩ := e2
          obtain ⟨t3, x3, y3, rfl, ht3, hx3, hy3⟩ := lb_of (lp1.up sH2)
          obtain ⟨t4, x4, y4, rfl, ht4, hx4, hy4⟩ := lb_of (lp2.up sH2)
          have b1 := hbits p1 (List.mem_of_getElem? ep)
          have b2 := hbits p2 (List.mem_of_getElem? eq)
          have hv2 := hv.up sH2
          have bw := Rising.step hris ep eq
          refine ⟨Tp, _, rfl, SqT.of upd_same, rfl, _, _, rfl, _, _, rfl, rfl, ?_⟩
          refine ⟨_, rfl, _, rfl, _, rfl, t3, _, hI b, _, rfl, rfl, SqT.of ht3, ixH, v, x3, x, p1.1, rfl, hv2, hx3, up bx (by decide), up b1.1 (by decide), _, rfl, ?_⟩
          rw [decide_eq_false hc]
          refine iteT ⟨_, rfl, _, rfl, _, rfl, t4, _, hI b, _, rfl, rfl, SqT.of ht4, ixH, v, x4, x, p2.1, rfl, hv2, hx4, up bx (by decide), up b2.1 (by decide), _, rfl, ?_⟩
          by_cases c2 : x < p2.1
          · rw [decide_eq_true c2]
            have eg : PL.goQ p1 (p2 :: r2) x = p1.2 + (x - p1.1) / (p2.1 - p1.1) * (p2.2 - p1.2) := by rw [PL.go_cons, if_pos c2]
            have nz : p2.1 - p1.1 ≠ 0 := by have := bw.1; grind
            refine iteT ⟨_, rfl, _, rfl, _, rfl, t3, _, hI b, _, rfl, rfl, SqT.of ht3, ixH, v, x3, x, p1.1, rfl, hv2, hx3, up bx (by decide), up b1.1 (by decide), fun v5 H5 s5 q5 => ?_⟩
            refine ⟨_, rfl, _, rfl, t4, _, hI b, _, rfl, rfl, SqT.of (s5 _ _ ht4), ixH, _, rfl, _, rfl, t3, _, hI b, _, rfl, rfl, SqT.of (s5 _ _ ht3), ixH, x4, x3, p2.1, p1.1, rfl, hx4.up s5, hx3.up s5, up b2.1 (by decide), up b1.1 (by decide), fun v6 H6 s6 q6 => ?_⟩
            refine ⟨v5, v6, _, _, rfl, q5.up s6, q6, up (bx.sub b1.1) (by decide), up (b2.1.sub b1.1) (by decide), nz, fun v7 H7 s7 q7 => ?_⟩
            have s57 := (s5.trans s6).trans s7
            refine ⟨_, rfl, _, rfl, t3, _, tI b, _, rfl, rfl, SqT.of (s57 _ _ ht3), ixT, _, rfl, _, rfl, _, rfl, t4, _, tI b, _, rfl, rfl, SqT.of (s57 _ _ ht4), ixT, _, rfl, _, rfl, t3, _, tI b, _, rfl, rfl, SqT.of (s57 _ _ ht3), ixT, y4, y3, p2.2, p1.2, rfl, hy4.up s57, hy3.up s57, up b2.2 (by decide), up b1.2 (by decide), fun v8 H8 s8 q8 => ?_⟩
            refine ⟨v7, v8, _, _, rfl, q7.up s8, q8, up ((bx.sub b1.1).div (b2.1.sub b1.1) nz) (by decide), up (b2.2.sub b1.2) (by decide), fun v9 H9 s9 q9 => ?_⟩
            refine ⟨y3, v9, p1.2, _, rfl, ((hy3.up s57).up s8).up s9, q9, up b1.2 (by decide), up (((bx.sub b1.1).div (b2.1.sub b1.1) nz).mul (b2.2.sub b1.2)) (by decide), fun u H10 s10 q10 => ?_⟩
            have q10 : PQ H10 u (p1.2 + (x - p1.1) / (p2.1 - p1.1) * (p2.2 - p1.2)) := q10
            rw [← eg, ← he] at q10
            exact k u H10 ((((sH2.trans s57).trans s8).trans s9).trans s10) q10
          · rw [decide_eq_false c2]
            refine iteF ⟨_, _, p2, r2, rfl, s2, ?_, c2, ?_⟩
            · rw [← List.drop_drop, hdr]
              rfl
            · rw [he, PL.go_cons, if_neg c2]
        · obtain ⟨o4, o5, p', r', rfl, sm, hdr, hc, he⟩ := hP
          have sH := s01.trans sm
          have hl' : ws'.length = r.length := by simpa using hl
          rw [hl'] at hdr
          have hr0 : r' = [] := by
            have z := congrArg List.length hdr
            simp only [List.length_drop, List.length_cons] at z
            exact List.length_eq_zero_iff.mp (by omega)
          subst hr0
          have hlast : (p :: r)[r.length]? = some p' := by
            have z := congrArg (fun l => l[0]?) hdr
            simpa using z
          obtain ⟨vl, ev, lpl⟩ := lbs_get hps hlast
          obtain ⟨t3, x3, y3, rfl, ht3, hx3, hy3⟩ := lb_of (lpl.up sH)
          have b1 := hbits p' (List.mem_of_getElem? hlast)
          have evl : (V.ref t1 :: ws').getLast? = some (.ref t3) := by
            rw [List.getLast?_eq_getElem?, List.length_cons, hl']
            exact ev
          refine ⟨_, rfl, _, rfl, D, _, _, _, rfl, rfl, SqL.of (sm _ _ (s1 _ _ hD0)), at_last evl, _, rfl, t3, _, tI b, _, rfl, rfl, SqT.of ht3, ixT, _, rfl, _, rfl, _, rfl, D, _, _, _, rfl, rfl, SqL.of (sm _ _ (s1 _ _ hD0)), at_last evl, _, rfl, t3, _, hI b, _, rfl, rfl, SqT.of ht3, ixH, v, x3, x, p'.1, rfl, hv.up sH, hx3, up bx (by decide), up b1.1 (by decide), fun v5 H5 s5 q5 => ?_⟩
          refine ⟨y3, v5, p'.2, _, rfl, hy3.up s5, q5, up b1.2 (by decide), up (bx.sub b1.1) (by decide), fun u H6 s6 q6 => ?_⟩
          have q6 : PQ H6 u (p'.2 + (x - p'.1)) := q6
          rw [← PL.go_nil, ← he] at q6
          exact k u H6 ((sH.trans s5).trans s6) q6
def spLedL : Sp := fun vs H Q _ => ∃ D ws ps v x, vs = [.ref D, v, .int 0, .int 1] ∧ Lst H D ws ps ∧ FinL ps ∧ PQ H v x ∧ Bits 400 x ∧ ∀ u H', Same H H' → PQ H' u (PL.ledR ps x) → Q u H'
theorem ok_w_led (T : Tx K mg base) : Ok P w K mg base 4 (d_w_led.loc K) ["_law_points_here", "_law_value", "_law_here", "_law_there"] spLedL := (okB_w_led T).imp fun vs H Q E h => by
  obtain ⟨D, ws, ps, v, x, e, hL, hF, hv, bx, k⟩ := h
  exact ⟨D, ws, ps, v, x, false, e, (by rw [show ps.map (sw1 false) = ps from List.map_id' ps]; exact hL), hF, hv, bx, k⟩
end
end K09

set_option maxHeartbeats 4000000
namespace K09
open PySem PySem.Spec PyProof.Rows L2 AT
/-! ### pairs as data -/
def dq (q : Rat) : PyData := .tuple [.int q.num, .int q.den]
def dp (p : Rat × Rat) : PyData := .tuple [dq p.1, dq p.2]
def dl (ps : List (Rat × Rat)) : PyData := .list (ps.map dp)
theorem eqv_dq (x y : Rat) : PyData.eqv (dq x) (dq y) = decide (x = y) := by
  unfold dq
  simp only [PyData.eqv, PyData.eqvAll, Bool.and_true]
  by_cases c : x = y
  · subst c; simp
  · rw [decide_eq_false c]
    rw [Bool.and_eq_false_iff]
    by_cases n : x.num = y.num
    · right
      simp
      intro d
      exact c (Rat.ext n (by omega))
    · left
      simpa using n
theorem eqv_dp (x y : Rat × Rat) : PyData.eqv (dp x) (dp y) = decide (x = y) := by
  obtain ⟨x1, x2⟩ := x
  obtain ⟨y1, y2⟩ := y
  unfold dp
  simp only [PyData.eqv, PyData.eqvAll, Bool.and_true, eqv_dq]
  by_cases c1 : x1 = y1 <;> by_cases c2 : x2 = y2 <;> simp [c1, c2]
theorem eqv_all : ∀ (xs ys : List (Rat × Rat)), PyData.eqvAll (xs.map dp) (ys.map dp) = decide (xs = ys)
  | [], [] => rfl
  | [], _ :: _ => rfl
  | _ :: _, [] => rfl
  | x :: xs, y :: ys => by
    simp only [List.map_cons, PyData.eqvAll, eqv_dp, eqv_all xs ys]
    by_cases c1 : x = y <;> by_cases c2 : xs = ys <;> simp [c1, c2]
theorem eqv_dl (xs ys : List (Rat × Rat)) : PyData.eqv (dl xs) (dl ys) = decide (xs = ys) := eqv_all xs ys
theorem lay_dp (xs : List (Rat × Rat)) : PyData.canLayAll0 (xs.map dp) = true ∧ PyData.depthAll (xs.map dp) ≤ 2 := by
  induction xs with
  | nil => exact ⟨rfl, by decide⟩
  | cons x xs ih =>
    refine ⟨?_, ?_⟩
    · rw [List.map_cons, PyData.canLayAll0, ih.1]
      rfl
    · have := ih.2
      simp only [List.map_cons, PyData.depthAll]
      have e : (dp x).depth = 2 := rfl
      omega
theorem shaped_dl (xs : List (Rat × Rat)) : SeqAt.shaped (dl xs) = true := by
  have h := lay_dp xs
  unfold SeqAt.shaped dl
  rw [PyData.canLay0, h.1, PyData.depth]
  simp
  omega
section
variable {P : Program} {w : World} {K : PySem.W.Frag} {mg : Str → Option Value} {base : Heap}
theorem PQ.dp {H : Hp} {v : V} {q : Rat} (h : PQ H v q) : Dp K H v (dq q) := by
  obtain ⟨a, rfl, ha⟩ := h
  exact .tup (SqT.of ha) (.cons (.int _) (.cons (.int _) .nil))
theorem LP.dp {H : Hp} {v : V} {p : Rat × Rat} (h : LP H v p) : Dp K H v (dp p) := by
  obtain ⟨t, x, y, rfl, ht, hx, hy⟩ := h
  exact .tup (SqT.of ht) (.cons hx.dp (.cons hy.dp .nil))
theorem LPs.dpl {H : Hp} {vs : List V} {ps : List (Rat × Rat)} (h : LPs H vs ps) : DpAll K H vs (ps.map K09.dp) := by
  induction h with
  | nil => exact .nil
  | cons a b ih => exact .cons a.dp ih
theorem Lst.dp {H : Hp} {D : Addr} {vs : List V} {ps : List (Rat × Rat)} (h : Lst H D vs ps) : Dp K H (.ref D) (dl ps) := .lst (SqL.of h.at_) h.lps.dpl
/-! ### lists of fractions -/
inductive PQs (H : Hp) : List V → List Rat → Prop
  | nil : PQs H [] []
  | cons {v : V} {q : Rat} {vs : List V} {qs : List Rat} : PQ H v q → PQs H vs qs → PQs H (v :: vs) (q :: qs)
theorem PQs.upT {H H' : Hp} {vs : List V} {qs : List Rat} (h : PQs H vs qs) (s : SameT H H') : PQs H' vs qs := by
  induction h with
  | nil => exact .nil
  | cons a b ih => exact .cons (a.upT s) ih
theorem PQs.up {H H' : Hp} {vs : List V} {qs : List Rat} (h : PQs H vs qs) (s : Same H H') : PQs H' vs qs := h.upT (sameT_of s)
theorem PQs.app {H : Hp} {vs ws : List V} {qs rs : List Rat} (h : PQs H vs qs) (g : PQs H ws rs) : PQs H (vs ++ ws) (qs ++ rs) := by
  induction h with
  | nil => exact g
  | cons a b ih => exact .cons a ih
theorem PQs.length {H : Hp} {vs : List V} {qs : List Rat} (h : PQs H vs qs) : vs.length = qs.length := by
  induction h with
  | nil => rfl
  | cons a b ih => simp [ih]
theorem PQs.at {H : Hp} {vs : List V} {qs : List Rat} (h : PQs H vs qs) : ∀ {i : Nat} {v : V}, vs[i]? = some v → ∃ q, qs[i]? = some q ∧ PQ H v q := by
  induction h with
  | nil => intro i v e; simp at e
  | cons a b ih =>
    intro i v e
    cases i with
    | zero => simp at e; subst e; exact ⟨_, rfl, a⟩
    | succ i => simpa using ih (by simpa using e)
theorem PQs.get {H : Hp} {vs : List V} {qs : List Rat} (h : PQs H vs qs) {i : Nat} {q : Rat} (e : qs[i]? = some q) : ∃ v, vs[i]? = some v ∧ PQ H v q := by
  have hi : i < vs.length := by rw [h.length]; exact (List.getElem?_eq_some_iff.mp e).1
  obtain ⟨q', e2, l⟩ := h.at (List.getElem?_eq_getElem hi)
  rw [e] at e2
  cases e2
  exact ⟨_, List.getElem?_eq_getElem hi, l⟩
def spPacL : Sp := fun vs H Q _ => ∃ D ws ps, vs = [.ref D] ∧ Lst H D ws ps ∧ FinL ps ∧ ∀ D2 us H', Same H H' → H D2 = none → H' D2 = some (.lst us) → PQs H' us (steepQ ps) → Q (.ref D2) H'
theorem sc_w_paces : FnScope ["_law_points_here", "_law_found", "_law_one", "_law_other"] ["_law_points_here"] (defScope s_w_paces) := ⟨rfl, rfl, rfl, by decide +kernel, rfl, by decide +kernel, by decide +kernel⟩
theorem ok_w_paces (T : Tx K mg base) : Ok P w K mg base 4 (d_w_paces.loc K) ["_law_points_here"] spPacL := by
  refine mk_ok (k := 3) T.f_w_paces sc_w_paces (fun _ _ _ _ _ _ us hl => match us, hl with | [_], _ => rfl) (fun vs H Q E h => ?_) (fun cdv A outer s H vs Q E hr h => ?_)
  · obtain ⟨D, ws, ps, rfl, _⟩ := h
    rfl
  · obtain ⟨D, ws, ps, rfl, ⟨hD, hp⟩, ⟨hris, hbits, hlen⟩, k⟩ := h
    refine ⟨_, (pss_cons (ps_set (i := 1) sc_w_paces.nd rfl (Or.inl rfl) (pe_lst (pa_cons (pe_tup (pa_cons pe_int (pa_cons pe_int pa_nil))) pa_nil)))
      (pss_cons (ps_for (passes_of rfl) rfl (RZ.pi_zipA (by rfl) T.b_zip (pa_cons (pv 0) (pa_cons (pe_slice sl_list (pv 0) (po_some pe_int) po_none) pa_nil))) (pg_tup rfl (pgs_cons (pg_name (i := 2) sc_w_paces.nd rfl (Or.inl rfl)) (pgs_cons (pg_name (i := 3) sc_w_paces.nd rfl (Or.inl rfl)) pgs_nil))) (pss_one (ps_expr (pe_bm PySem.F.plainAttrs_list PySem.F.slot_list_append PySem.F.type_list_append mt_append (pv 1) (pa_cons (ok_call (ok_w_quotient T) (hr.mono (by decide)) rfl T.g_w_quotient passL (pa_cons (ok_call (ok_w_rest T) (hr.mono (by decide)) rfl T.g_w_rest passL (pa_cons (pe_ix ix_tup (pv 3) pe_int (fun _ _ => rfl)) (pa_cons (pe_ix ix_tup (pv 2) pe_int (fun _ _ => rfl)) pa_nil))) (pa_cons (ok_call (ok_w_rest T) (hr.mono (by decide)) rfl T.g_w_rest passL (pa_cons (pe_ix ix_tup (pv 3) pe_int (fun _ _ => rfl)) (pa_cons (pe_ix ix_tup (pv 2) pe_int (fun _ _ => rfl)) pa_nil))) pa_nil))) pa_nil)))))
      (pss_one (ps_ret (pe_op op_cat (pv 1) (pe_lst (pa_cons (pe_tup (pa_cons pe_int (pa_cons pe_int pa_nil))) pa_nil))))))), ?_⟩
    have hl := hp.length
    have hsz : sizeLine = 16777216 := sizeLine_eq
    have up : ∀ {q : Rat} {m : Nat}, Bits m q → m ≤ 3000 → Bits 3000 q := fun h l => h.mono l
    refine ⟨(by show 2 ≤ sizeLine; decide), fun t1 g1 => ⟨(by show 1 ≤ sizeLine; decide), fun F gF => ?_⟩⟩
    have s1 := (AT.Same.up (o := .tup [.int 1, .int 1]) g1)
    have s2 := AT.Same.up (o := .lst [.ref t1]) gF
    have s12 := s1.trans s2
    have hFn := none_of s1 gF
    have h1 : PQs (upd (upd H t1 (.tup [.int 1, .int 1])) F (.lst [.ref t1])) [.ref t1] [1] := .cons ⟨t1, rfl, s2 _ _ upd_same⟩ .nil
    have hF : upd (upd H t1 (.tup [.int 1, .int 1])) F (.lst [.ref t1]) F = some (.lst [.ref t1]) := upd_same
    generalize upd (upd H t1 (.tup [.int 1, .int 1])) F (.lst [.ref t1]) = HA at s12 h1 hF ⊢
    refine ⟨_, rfl, _, rfl, 1, rfl, D, _, rfl, SqL.of (s12 _ _ hD), fun z gz => ?_⟩
    rw [cut_tail]
    have s3 := AT.Same.up (o := .lst ws.tail) gz
    have hn : ws.length - 1 = min ws.length ws.tail.length := by rw [List.length_tail]; omega
    have sl : (slopes ps).length = ws.length - 1 := by
      unfold slopes
      rw [List.length_zipWith, List.length_tail, hl]
      omega
    have nzF : z ≠ F := by rintro rfl; rw [hF] at gz; cases gz
    have fin : ∀ (H' : Hp) (us : List V), Same H H' → H' F = some (.lst us) → PQs H' us ([1] ++ slopes ps) → ∀ t2, H' t2 = none → ∀ e, upd H' t2 (.tup [.int 1, .int 1]) e = none → ∀ r, upd (upd H' t2 (.tup [.int 1, .int 1])) e (.lst [.ref t2]) r = none → Q (.ref r) (upd (upd (upd H' t2 (.tup [.int 1, .int 1])) e (.lst [.ref t2])) r (.lst (us ++ [.ref t2]))) := by
      intro H' us sm hF' hq t2 gt2 e ge r gr
      have sa := AT.Same.up (o := .tup [.int 1, .int 1]) gt2
      have sb := AT.Same.up (o := .lst [.ref t2]) ge
      have sc := AT.Same.up (o := .lst (us ++ [.ref t2])) gr
      refine k r _ _ (((sm.trans sa).trans sb).trans sc) (none_of ((sm.trans sa).trans sb) gr) upd_same ?_
      exact (hq.up ((sa.trans sb).trans sc)).app (.cons ⟨t2, rfl, (sb.trans sc) _ _ upd_same⟩ .nil)
    refine ⟨D, z, ws, ws.tail, rfl, .inl ⟨SqL.of (s3 _ _ (s12 _ _ hD)), SqL.of upd_same, for_it (walk_zip hn) (fun i σ' H' => ∃ o2 o3 us, σ' = ([some (.ref D), some (.ref F), o2, o3] : L2.St) ∧ Same H H' ∧ H' z = some (.lst ws.tail) ∧ H' F = some (.lst us) ∧ PQs H' us ([1] ++ (slopes ps).take i)) ⟨_, _, _, rfl, s12.trans s3, upd_same, s3 _ _ hF, h1.up s3⟩ (fun i σ' H' hi hP => ?_) (fun i y σ' H' H2 hi hP hY => ?_) (fun σ' H' hP => ?_)⟩⟩
    · obtain ⟨_, _, us, rfl, sm, hz, _, _⟩ := hP
      exact ⟨SqL.of (sm _ _ hD), SqL.of hz⟩
    · obtain ⟨o2, o3, us, rfl, sm, hz, hF', hq⟩ := hP
      obtain ⟨Tp, x0, y0, rfl, hTp, rfl, hx0, hy0⟩ := hY
      have hx0 : ws[i]? = some x0 := hx0
      have hy0 : ws[i + 1]? = some y0 := by
        have z : ws.tail[i]? = some y0 := hy0
        rw [List.getElem?_tail] at z
        exact z
      have sT := AT.Same.up (o := .tup [x0, y0]) hTp
      have sH2 := sm.trans sT
      obtain ⟨p1, ep, lp1⟩ := hp.at hx0
      obtain ⟨p2, eq, lp2⟩ := hp.at hy0
      have bw := Rising.step hris ep eq
      have b1 := hbits p1 (List.mem_of_getElem? ep)
      have b2 := hbits p2 (List.mem_of_getElem? eq)
      obtain ⟨t3, x3, y3, rfl, ht3, hx3, hy3⟩ := lp1.up sH2
      obtain ⟨t4, x4, y4, rfl, ht4, hx4, hy4⟩ := lp2.up sH2
      have nz : p2.1 - p1.1 ≠ 0 := by have := bw.1; grind
      have lu := hq.length
      simp only [List.length_append, List.length_take, List.length_cons, List.length_nil] at lu
      refine ⟨Tp, _, rfl, SqT.of upd_same, rfl, _, _, rfl, _, _, rfl, rfl, ?_⟩
      refine ⟨_, rfl, tyV_lst (sT _ _ hF'), _, rfl, t4, _, 1, _, rfl, rfl, SqT.of ht4, rfl, _, rfl, t3, _, 1, _, rfl, rfl, SqT.of ht3, rfl, y4, y3, p2.2, p1.2, rfl, hy4, hy3, up b2.2 (by decide), up b1.2 (by decide), fun v5 H5 s5 q5 => ?_⟩
      refine ⟨_, rfl, t4, _, 0, _, rfl, rfl, SqT.of (s5 _ _ ht4), rfl, _, rfl, t3, _, 0, _, rfl, rfl, SqT.of (s5 _ _ ht3), rfl, x4, x3, p2.1, p1.1, rfl, hx4.up s5, hx3.up s5, up b2.1 (by decide), up b1.1 (by decide), fun v6 H6 s6 q6 => ?_⟩
      refine ⟨v5, v6, _, _, rfl, q5.up s6, q6, up (b2.2.sub b1.2) (by decide), up (b2.1.sub b1.1) (by decide), nz, fun v7 H7 s7 q7 => ?_⟩
      have s57 := (sT.trans s5).trans (s6.trans s7)
      have hF7 := s57 _ _ hF'
      have nzF' : z ≠ F := nzF
      refine ⟨F, us, _, rfl, rfl, hF7, (by omega), _, _, us ++ [v7], rfl, AT.Same.new (sm.trans s57) hFn, (by rw [upd_ne nzF]; exact s57 _ _ hz), upd_same, ?_⟩
      rw [List.take_add_one, slopes_at ep eq, ← List.append_assoc]
      exact ((hq.up s57).app (.cons q7 .nil)).upT (sameT_set hF7)
    · obtain ⟨o2, o3, us, rfl, sm, hz, hF', hq⟩ := hP
      rw [← sl, List.take_length] at hq
      refine ⟨_, rfl, (by show 2 ≤ sizeLine; decide), fun t2 gt2 => ⟨(by show 1 ≤ sizeLine; decide), fun e ge => ?_⟩⟩
      have lu := hq.length
      simp only [List.length_append, List.length_cons, List.length_nil, sl] at lu
      refine ⟨F, e, us, [.ref t2], rfl, rfl, AT.Same.up ge _ _ (AT.Same.up gt2 _ _ hF'), upd_same, (by simp only [List.length_cons, List.length_nil]; omega), fun r gr => fin H' us sm hF' hq t2 gt2 e ge r gr⟩
end
end K09

set_option maxHeartbeats 4000000
namespace K09
open PySem PySem.Spec PyProof.Rows L2 AT
section
variable {P : Program} {w : World} {K : PySem.W.Frag} {mg : Str → Option Value} {base : Heap}
def spBndL : Sp := fun vs H Q _ => ∃ D ws ps, vs = [.ref D] ∧ Lst H D ws ps ∧ FinL ps ∧ ∀ D2 us H', Same H H' → H D2 = none → Lst H' D2 us (PL.bendF ps) → Q (.ref D2) H'
theorem sc_w_bends : FnScope ["_law_points_here", "_law_steeps", "_law_at", "_law_point", "_law_found"] ["_law_points_here"] (defScope s_w_bends) := ⟨rfl, rfl, rfl, by decide +kernel, rfl, by decide +kernel, by decide +kernel⟩
theorem ok_w_bends (T : Tx K mg base) : Ok P w K mg base 6 (d_w_bends.loc K) ["_law_points_here"] spBndL := by
  refine mk_ok (k := 5) T.f_w_bends sc_w_bends (fun _ _ _ _ _ _ us hl => match us, hl with | [_], _ => rfl) (fun vs H Q E h => ?_) (fun cdv A outer s H vs Q E hr h => ?_)
  · obtain ⟨D, ws, ps, rfl, _⟩ := h
    rfl
  · obtain ⟨a, ws, ps, rfl, hLst, hF, k⟩ := h
    refine ⟨_, (pss_cons (ps_set (i := 1) sc_w_bends.nd rfl (Or.inr rfl) (ok_call (ok_w_paces T) (hr.mono (by decide)) rfl T.g_w_paces passL (pa_cons (pv 0) pa_nil)))
      (pss_cons (ps_setLc (i := 4) (own := [("_law_at", 2), ("_law_point", 3)]) (g := (gTup K 2 (gCons (gName 2) (gCons (gName 3) gNil)))) (by rfl) sc_w_bends.nd rfl rfl (sw_true rfl rfl rfl (by decide +kernel)) (pi_enumA (by rfl) T.b_enumerate (pa_cons (pv 0) pa_nil)) (blkOk_by (own := [("_law_at", 2), ("_law_point", 3)]) (N := ["_law_points_here", "_law_steeps", "_law_at", "_law_point", "_law_found"]) (sc := defScope s_w_bends) (by decide +kernel)) (fun _ _ _ _ _ => (pg_tup rfl (pgs_cons (pg_name (i := 2) sc_w_bends.nd rfl (Or.inl rfl)) (pgs_cons (pg_name (i := 3) sc_w_bends.nd rfl (Or.inl rfl)) pgs_nil)))) (fun _ _ _ _ _ => (pts_one (pt_cmpR (show OpR _ _ (rNeD K) from (op_neD hr.units)) (pe_ix (show IxR _ (rIxL K) from ix_list) (pv 1) (pv 2) (fun _ _ => rfl)) (pe_ix (show IxR _ (rIxL K) from ix_list) (pv 1) (pe_op op_add (pv 2) pe_int) (fun _ _ => rfl)) (nomark _)))) (fun _ _ _ _ _ => (pv 3)))
      (pss_one (ps_ret (pe_ifExp (pt_cmpR (show OpR _ _ (rNeE K) from op_neE hr.units) (pv 4) (pe_lst pa_nil) (nomark _)) (pv 4) (pe_lst (pa_cons (pe_tup (pa_cons (pe_tup (pa_cons pe_int (pa_cons pe_int pa_nil))) (pa_cons (ok_call (ok_w_led T) (hr.mono (by decide)) rfl T.g_w_led passL (pa_cons (pv 0) (pa_cons (pe_tup (pa_cons pe_int (pa_cons pe_int pa_nil))) (pa_cons pe_int (pa_cons pe_int pa_nil))))) pa_nil))) pa_nil))))))), ?_⟩
    obtain ⟨ha, hp⟩ := id hLst
    obtain ⟨hris, hbits, hlen⟩ := id hF
    have hl := hp.length
    have hsz : sizeLine = 16777216 := sizeLine_eq
    refine ⟨_, rfl, a, ws, ps, rfl, hLst, hF, fun S ss H1 s1 hS hS1 hq => ?_⟩
    have ha1 := s1 _ _ ha
    refine ⟨_, rfl, a, ws, rfl, .inl (SqL.of ha1), fun J hJ D hD => ?_⟩
    obtain ⟨G, wk, hG⟩ := en_walk hJ
    have hHa : ∀ H', Same H1 H' → H' a = H1 a := fun H' s => by rw [s _ _ ha1, ha1]
    refine lc_it wk (fun i H' => ∃ us, Same H1 H' ∧ H' D = some (.lst us) ∧ LPs H' us (bendAt ps i)) ⟨[], AT.Same.up hD, upd_same, .nil⟩ (fun i H' hi ⟨us, sm, _⟩ => hG _ (hHa _ sm)) (fun i z H' H2 hi ⟨us, sm, hl1, hu⟩ hY => ?_) (fun H' ⟨us, sm, hl1, hu⟩ => ?_)
    · obtain ⟨Tp, x0, y0, rfl, hTp, rfl, e1, hy0⟩ := hY
      cases e1
      have hy0 : ws[i]? = some y0 := hy0
      have s2 := AT.Same.up (o := .tup [.int (i : Nat), y0]) hTp
      obtain ⟨p1, ep, pt1⟩ := hp.at hy0
      have np : ps ≠ [] := by rintro rfl; simp at ep
      have li : i < ps.length := (List.getElem?_eq_some_iff.mp ep).1
      have sl := steep_len np
      have ex : (steepQ ps)[i]? = some (steepQ ps)[i] := List.getElem?_eq_getElem (by omega)
      have ey : (steepQ ps)[i + 1]? = some (steepQ ps)[i + 1] := List.getElem?_eq_getElem (by omega)
      generalize (steepQ ps)[i] = x at ex
      generalize (steepQ ps)[i + 1] = y at ey
      obtain ⟨xa, exa, hxa⟩ := hq.get ex
      obtain ⟨ya, eya, hya⟩ := hq.get ey
      have s12 := sm.trans s2
      refine ⟨Tp, _, rfl, SqT.of upd_same, rfl, _, _, rfl, _, _, rfl, rfl, rfl, ?_⟩
      refine ⟨_, rfl, _, rfl, S, ss, _, _, rfl, rfl, SqL.of (s12 _ _ hS1), atI_nat exa, _, rfl, _, rfl, _, _, rfl, rfl, S, ss, _, _, rfl, rfl, SqL.of (s12 _ _ hS1), (by rw [show ((i : Nat) + 1 : Int) = ((i + 1 : Nat) : Int) by omega]; exact atI_nat eya), dq x, dq y, (hxa.up s12).dp, (hya.up s12).dp, rfl, rfl, _, rfl, ?_⟩
      rw [eqv_dq]
      have st := bend_step ps ep ex ey
      have lb := bend_len ps i
      have lu := hu.length
      by_cases c : x = y
      · rw [decide_eq_true c]
        rw [if_pos c, List.append_nil] at st
        refine iteF ⟨us, s12, s2 _ _ hl1, ?_⟩
        rw [st]
        exact hu.up s2
      · rw [decide_eq_false c]
        rw [if_neg c] at st
        refine iteT ⟨_, rfl, us, s2 _ _ hl1, (by omega), us ++ [y0], AT.Same.new s12 hD, upd_same, ?_⟩
        rw [st]
        exact ((hu.up s2).app ((pt1.up s1).up s12)).upT (sameT_set (s2 _ _ hl1))
    · rw [hl, bend_at] at hu
      refine ⟨_, rfl, Nat.zero_le _, fun z gz => ?_⟩
      have sz := AT.Same.up (o := .lst []) gz
      refine ⟨us, ⟨D, z, rfl, rfl, SqL.of (sz _ _ hl1), SqL.of upd_same⟩, _, rfl, ?_⟩
      have lu := hu.length
      cases hw : us.isEmpty with
      | false =>
        have ne : PL.bendR 1 ps ≠ [] := by
          intro z
          rw [z] at hu
          cases hu
          simp at hw
        refine iteT ⟨_, rfl, k D us _ ((s1.trans sm).trans sz) (none_of s1 hD) ⟨sz _ _ hl1, ?_⟩⟩
        unfold PL.bendF
        rw [if_neg ne]
        exact hu.up sz
      | true =>
        have e0 : us = [] := by simpa using hw
        have e1 : PL.bendR 1 ps = [] := List.length_eq_zero_iff.mp (by rw [← lu, e0]; rfl)
        refine iteF ?_
        refine ⟨(by show 2 ≤ sizeLine; decide), fun t1 g1 => ⟨_, rfl, (by show 2 ≤ sizeLine; decide), fun t2 g2 => ?_⟩⟩
        have sA := AT.Same.up (o := .tup [.int 0, .int 1]) g1
        have sB := AT.Same.up (o := .tup [.int 0, .int 1]) g2
        have sAll := ((s1.trans sm).trans sz).trans (sA.trans sB)
        have q0 : PQ (upd (upd (upd H' z (.lst [])) t1 (.tup [.int 0, .int 1])) t2 (.tup [.int 0, .int 1])) (.ref t2) 0 := ⟨t2, rfl, upd_same⟩
        have q1 : PQ (upd (upd (upd H' z (.lst [])) t1 (.tup [.int 0, .int 1])) t2 (.tup [.int 0, .int 1])) (.ref t1) 0 := ⟨t1, rfl, sB _ _ upd_same⟩
        refine ⟨a, ws, ps, _, 0, rfl, hLst.up sAll, hF, q0, ⟨by decide +kernel, by decide +kernel⟩, fun r H3 s3 hR => ?_⟩
        refine ⟨(by show 2 ≤ sizeLine; decide), fun t ht => ⟨(by show 1 ≤ sizeLine; decide), fun L hL => ?_⟩⟩
        have sC := AT.Same.up (o := .tup [.ref t1, r]) ht
        have sD := AT.Same.up (o := .lst [.ref t]) hL
        refine k L [.ref t] _ ((sAll.trans s3).trans (sC.trans sD)) (none_of ((sAll.trans s3).trans sC) hL) ⟨upd_same, ?_⟩
        unfold PL.bendF
        rw [if_pos e1]
        exact .cons ⟨t, .ref t1, r, rfl, sD _ _ upd_same, (q1.up s3).up (sC.trans sD), hR.up (sC.trans sD)⟩ .nil
end
end K09

set_option maxHeartbeats 4000000
namespace K09
open PySem PySem.Spec PyProof.Rows L2 AT
section
variable {P : Program} {w : World} {K : PySem.W.Frag} {mg : Str → Option Value} {base : Heap}
def spPrs (K : PySem.W.Frag) : Sp := fun vs H Q _ => ∃ D us ps, vs = [.ref D] ∧ H D = some (.lst us) ∧ Pts K H us ps ∧ ps.length < 1000 ∧ ∀ D2 ws H', Same H H' → H D2 = none → Lst H' D2 ws ps → Q (.ref D2) H'
theorem sc_w_pairs : FnScope ["_law_points_here", "_law_point", "_law_one", "_law_other"] ["_law_points_here"] (defScope s_w_pairs) := ⟨rfl, rfl, rfl, by decide +kernel, rfl, by decide +kernel, by decide +kernel⟩
theorem ok_w_pairs (T : Tx K mg base) : Ok P w K mg base 4 (d_w_pairs.loc K) ["_law_points_here"] (spPrs K) := by
  refine mk_ok (k := 3) T.f_w_pairs sc_w_pairs (fun _ _ _ _ _ _ us hl => match us, hl with | [_], _ => rfl) (fun vs H Q E h => ?_) (fun cdv A outer s H vs Q E hr h => ?_)
  · obtain ⟨D, us, ps, rfl, _⟩ := h
    rfl
  · obtain ⟨D, us, ps, rfl, hD, hp, hlen, k⟩ := h
    refine ⟨_, (pss_cons (ps_if (pt_cmpR (show OpR _ _ (rNeE K) from op_neE hr.units) (pe_lc (own := [("_law_point", 1)]) (g := (gName 1)) (by rfl) sc_w_pairs.nd (pi_list (pv 0)) (blkOk_by (own := [("_law_point", 1)]) (N := ["_law_points_here", "_law_point", "_law_one", "_law_other"]) (sc := defScope s_w_pairs) (by decide +kernel)) (fun _ _ _ _ _ => (pg_name (i := 1) sc_w_pairs.nd rfl (Or.inl rfl))) (fun _ _ _ _ _ => (pts_one (pt_not (pt_val (pe_callB (show CallR _ (.builtin "isinstance") (rIsi K) from call_isi) (by rfl) T.b_isinstance (by decide +kernel) (pa_cons (pv 1) (pa_cons (pe_bltn (v := .ty "tuple") rfl T.b_tuple (by decide +kernel) rfl) pa_nil))))))) (fun _ _ _ _ _ => (pv 1))) (pe_lst pa_nil) (nomark _)) (pss_one (ps_ret pe_non)) pss_nil)
      (pss_one (ps_ret (pe_lc (own := [("_law_one", 2), ("_law_other", 3)]) (g := (gTup K 2 (gCons (gName 2) (gCons (gName 3) gNil)))) (tt := tYes) (by rfl) sc_w_pairs.nd (pi_list (pv 0)) (blkOk_by (own := [("_law_one", 2), ("_law_other", 3)]) (N := ["_law_points_here", "_law_point", "_law_one", "_law_other"]) (sc := defScope s_w_pairs) (by decide +kernel)) (fun _ _ _ _ _ => (pg_tup rfl (pgs_cons (pg_name (i := 2) sc_w_pairs.nd rfl (Or.inl rfl)) (pgs_cons (pg_name (i := 3) sc_w_pairs.nd rfl (Or.inl rfl)) pgs_nil)))) (fun _ _ _ _ _ => pts_nil) (fun _ _ _ _ _ => (pe_tup (pa_cons (ok_call (ok_w_pair T) (hr.mono (by decide)) rfl T.g_w_pair passL (pa_cons (pv 2) pa_nil)) (pa_cons (ok_call (ok_w_pair T) (hr.mono (by decide)) rfl T.g_w_pair passL (pa_cons (pv 3) pa_nil)) pa_nil)))))))), ?_⟩
    have hl := hp.length
    have hsz : sizeLine = 16777216 := sizeLine_eq
    refine ⟨_, rfl, D, rfl, ⟨_, SqL.of hD⟩, fun E1 gE => ?_⟩
    refine lc_list (K := K) (a := D) (xs := us) (fun j Hj => Same H Hj ∧ Hj E1 = some (.lst [])) ⟨AT.Same.up gE, upd_same⟩ (fun j Hj _ h => SqL.of (h.1 _ _ hD)) (fun j x Hj hx hP => ?_) (fun Hj hP => ?_)
    · obtain ⟨q, eq, t, x1, y1, rfl, ht, _, _⟩ := hp.at hx
      obtain ⟨sj, hE⟩ := hP
      refine ⟨rfl, ?_⟩
      refine ⟨_, rfl, _, _, _, _, _, rfl, .ty _, .base (.tup (sj _ _ ht)), kit_ty (r := true) (by decide +kernel), _, rfl, iteF ⟨sj, hE⟩⟩
    · obtain ⟨sj, hE⟩ := hP
      refine ⟨Nat.zero_le _, fun z gz => ?_⟩
      have sz := AT.Same.up (o := .lst []) gz
      refine ⟨[], ⟨E1, z, rfl, rfl, SqL.of (sz _ _ hE), SqL.of upd_same⟩, _, rfl, iteF ?_⟩
      have s1 := sj.trans sz
      refine ⟨_, rfl, D, rfl, ⟨_, SqL.of (s1 _ _ hD)⟩, fun D2 gD2 => ?_⟩
      refine lc_list (K := K) (a := D) (xs := us) (fun j Hj => Same H Hj ∧ ∃ acc, Hj D2 = some (.lst acc) ∧ LPs Hj acc (ps.take j)) ⟨s1.trans (AT.Same.up gD2), [], upd_same, .nil⟩ (fun j Hj _ h => SqL.of (h.1 _ _ hD)) (fun j x Hj hx hP => ?_) (fun Hj hP => ?_)
      · obtain ⟨q, eq, t, x1, y1, rfl, ht, hx1, hy1⟩ := hp.at hx
        obtain ⟨sj, acc, hacc, hlp⟩ := hP
        refine ⟨t, _, rfl, SqT.of (sj _ _ ht), rfl, _, _, rfl, _, _, rfl, rfl, rfl, ?_⟩
        dsimp only [tYes]
        refine iteT ?_
        refine ⟨_, rfl, x1, q.1, rfl, hx1.up sj, fun v5 H5 s5 q5 => ?_⟩
        refine ⟨_, rfl, y1, q.2, rfl, (hy1.up sj).up s5, fun v6 H6 s6 q6 => ?_⟩
        refine ⟨(by show 2 ≤ sizeLine; decide), fun tt gt => ?_⟩
        have sT := AT.Same.up (o := .tup [v5, v6]) gt
        have s56 := (s5.trans s6).trans sT
        have lu := hlp.length
        rw [List.length_take] at lu
        refine ⟨acc, s56 _ _ hacc, (by omega), AT.Same.new (sj.trans s56) (none_of s1 gD2), acc ++ [.ref tt], upd_same, ?_⟩
        rw [List.take_add_one, eq]
        exact ((hlp.up s56).app ⟨tt, v5, v6, rfl, upd_same, (q5.up s6).up sT, q6.up sT⟩).upT (sameT_set (s56 _ _ hacc))
      · obtain ⟨sj, acc, hacc, hlp⟩ := hP
        rw [hl, List.take_length] at hlp
        exact k D2 acc Hj sj (none_of s1 gD2) ⟨hacc, hlp⟩
end
end K09

set_option maxHeartbeats 4000000
namespace K09
open PySem PySem.Spec PyProof.Rows L2 AT
/-! ### the other way round -/
theorem ahead_sw (ps : List (Rat × Rat)) (v : Rat) (n : Nat) : aheadQ ps true v n = aheadQ (ps.map PL.swp) false v n := by
  unfold aheadQ
  refine List.filter_congr fun i _ => ?_
  rw [List.getElem?_map]
  cases ps[i]? <;> rfl
theorem led_sw (ps : List (Rat × Rat)) (v : Rat) : ledQ ps v true false = ledQ (ps.map PL.swp) v false true := by
  cases ps with
  | nil => rfl
  | cons p r =>
    have ha := ahead_sw (p :: r) v (p :: r).length
    have e1 : ∀ i, ((p :: r).map PL.swp)[i]? = ((p :: r)[i]?).map PL.swp := fun i => List.getElem?_map
    have el : ((p :: r).map PL.swp).length = (p :: r).length := List.length_map _
    show (match (aheadQ (p :: r) true v (p :: r).length).getLast? with | none => _ | some l => _) = (match (aheadQ ((p :: r).map PL.swp) false v ((p :: r).map PL.swp).length).getLast? with | none => _ | some l => _)
    rw [el, ← ha]
    cases (aheadQ (p :: r) true v (p :: r).length).getLast? with
    | none => rfl
    | some l =>
      dsimp only
      rw [e1 l, e1 (l + 1)]
      cases (p :: r)[l]? with
      | none => cases (p :: r)[l + 1]? <;> rfl
      | some a => cases (p :: r)[l + 1]? <;> rfl
theorem led_back {ps : List (Rat × Rat)} (hr : Rising ps) (v : Rat) : ledQ ps v true false = PL.ledR (ps.map PL.swp) v := by
  rw [led_sw, led_eq (rising_of (PL.ris_swp (ris_of hr)))]
section
variable {P : Program} {w : World} {K : PySem.W.Frag} {mg : Str → Option Value} {base : Heap}
theorem sc_TempoMap_beat_of : FnScope ["self", "second"] ["self", "second"] (defScope s_TempoMap_beat_of) := ⟨rfl, rfl, rfl, by decide +kernel, rfl, by decide +kernel, by decide +kernel⟩
theorem ok_TempoMap_beat_of (T : Tx K mg base) : Ok P w K mg base 10 (d_TempoMap_beat_of.loc K) ["self", "second"] (spAsk K fun bs x => PL.ledR (bs.map PL.swp) x) := by
  refine mk_ok (k := 9) T.f_TempoMap_beat_of sc_TempoMap_beat_of (fun _ _ _ _ _ _ us hl => match us, hl with | [_, _], _ => rfl) (fun vs H Q E h => ?_) (fun cdv A outer s H vs Q E hr h => ?_)
  · obtain ⟨m, bs, v, rfl, _⟩ := h
    rfl
  · obtain ⟨m, bs, v, rfl, ⟨dx, t, ws, h1, h2, h3⟩, ⟨f1, f2, f3, f4⟩, hv, hc⟩ := h
    refine ⟨_, (pss_one (ps_ret (ok_call (ok_led T) (hr.mono (by decide)) rfl T.g_led passL (pa_cons (pe_fld (pv 0) rfl) (pa_cons (ok_call (ok_amount_from T) (hr.mono (by decide)) rfl T.g_amount_from (passE rfl rfl rfl rfl) (pa_cons (pv 1) pa_nil)) (pa_cons pe_int (pa_cons pe_int pa_nil))))))), ?_⟩
    refine ⟨_, rfl, m, _, dx, _, _, rfl, h1, T.cls_TempoMap, T.no_TempoMap_own_points, rfl, _, rfl, v, rfl, hv, ?_⟩
    rcases hc with ⟨x, hx, bx, k⟩ | z
    · refine .inl ⟨x, hx, fun p H1 s1 hq => ?_⟩
      refine ⟨t, ws, false, bs, p, x, true, false, rfl, s1 _ _ h2, h3.up s1, f3, f1, f2, hq, bx, fun r H2 s2 hr2 => ?_⟩
      rw [led_back f1] at hr2
      exact k r H2 (s1.trans s2) hr2
    · exact .inr z
/-! ### ascending amounts -/
theorem eqB_amt {X : Cx} (T : Tx X.K X.mg X.base) : EqB X 2 (CIns (cA X.K) (QEq X.K)) := by
  refine eqB_ins T.eq_Amount (ok_Amount_eq_ T) (E := E0) passL (fun p q H b h => ?_) fun p H b h => ?_
  · obtain ⟨x, y, h1, h2, rfl⟩ := h
    exact ⟨p, q, x, y, rfl, h1, h2, rfl, rfl⟩
  · obtain ⟨x, y, h1, h2, rfl⟩ := h
    exact decide_eq_true (h1.inj h2)
theorem Qs.at {H : Hp} {vs : List V} {qs : List Rat} (h : Qs K H vs qs) : ∀ {i : Nat} {v : V}, vs[i]? = some v → ∃ a q, v = .ref a ∧ qs[i]? = some q ∧ IsQ K H a q := by
  induction h with
  | nil => intro i v e; simp at e
  | cons a b ih =>
    intro i v e
    cases i with
    | zero => simp at e; subst e; exact ⟨_, _, rfl, rfl, a⟩
    | succ i => simpa using ih (by simpa using e)
theorem Qs.take {H : Hp} {vs : List V} {qs : List Rat} (h : Qs K H vs qs) : ∀ n, Qs K H (vs.take n) (qs.take n) := by
  induction h with
  | nil => intro n; simp; exact .nil
  | cons a b ih =>
    intro n
    cases n with
    | zero => exact .nil
    | succ n => exact .cons a (ih n)
theorem Qs.drop {H : Hp} {vs : List V} {qs : List Rat} (h : Qs K H vs qs) : ∀ n, Qs K H (vs.drop n) (qs.drop n) := by
  induction h with
  | nil => intro n; simp; exact .nil
  | cons a b ih =>
    intro n
    cases n with
    | zero => exact .cons a b
    | succ n => simpa using ih n
def spRise (K : PySem.W.Frag) : Sp := fun vs H Q _ => ∃ D us qs, vs = [.ref D] ∧ H D = some (.lst us) ∧ Qs K H us qs ∧ qs.length < 1000 ∧ (∀ q ∈ qs, Bits 3000 q) ∧ ∀ D2 us2 H', Same H H' → H D2 = none → H' D2 = some (.lst us2) → Qs K H' us2 (PL.riseQ qs) → Q (.ref D2) H'
theorem sc_rising : FnScope ["amounts", "found", "amount", "one"] ["amounts"] (defScope s_rising) := ⟨rfl, rfl, rfl, by decide +kernel, rfl, by decide +kernel, by decide +kernel⟩
theorem ok_rising (T : Tx K mg base) : Ok P w K mg base 8 (d_rising.loc K) ["amounts"] (spRise K) := by
  refine mk_ok (k := 7) T.f_rising sc_rising (fun _ _ _ _ _ _ us hl => match us, hl with | [_], _ => rfl) (fun vs H Q E h => ?_) (fun cdv A outer s H vs Q E hr h => ?_)
  · obtain ⟨D, us, qs, rfl, _⟩ := h
    rfl
  · obtain ⟨D, us, qs, rfl, hD, hq, hlen, hbits, k⟩ := h
    refine ⟨_, (pss_cons (ps_set (i := 1) sc_rising.nd rfl (Or.inl rfl) (pe_lst pa_nil))
      (pss_cons (ps_for (passes_of rfl) rfl (pi_list (pv 0)) (pg_name (i := 2) sc_rising.nd rfl (Or.inr rfl)) (pss_one (ps_if (pt_cmpR (op_niB (eqB_amt T) (hr.mono (by decide))) (pv 2) (pv 1) (by rfl)) (pss_one (ps_expr (pe_bm PySem.F.plainAttrs_list PySem.F.slot_list_insert PySem.F.type_list_insert mt_insert (pv 1) (pa_cons (pe_callB call_len_seq (by rfl) T.b_len (by decide +kernel) (pa_cons (pe_lc (own := [("one", 3)]) (g := (gName 3)) (by rfl) sc_rising.nd (pi_list (pv 1)) (blkOk_by (own := [("one", 3)]) (N := ["amounts", "found", "amount", "one"]) (sc := defScope s_rising) (by decide +kernel)) (fun _ _ _ _ _ => (pg_name (i := 3) sc_rising.nd rfl (Or.inl rfl))) (fun _ _ _ _ _ => (pts_one (pt_cmpR op_lt (ok_meth T.cls_Amount T.m_Amount_compare (ok_Amount_compare T) (hr.mono (by decide)) passL (pv 3) (pa_cons (pv 2) pa_nil)) pe_int (nomark _)))) (fun _ _ _ _ _ => (pv 3))) pa_nil)) (pa_cons (pv 2) pa_nil))))) pss_nil)))
      (pss_one (ps_ret (pv 1))))), ?_⟩
    have hl := hq.length
    have hsz : sizeLine = 16777216 := sizeLine_eq
    refine ⟨Nat.zero_le _, fun F gF => ?_⟩
    refine ⟨_, rfl, D, rfl, ⟨_, SqL.of (AT.Same.up gF _ _ hD)⟩, for_list (xs := us) (fun j σ' H' => ∃ o2 ac, σ' = ([some (.ref D), some (.ref F), o2, none] : L2.St) ∧ Same H H' ∧ H' F = some (.lst ac) ∧ Qs K H' ac (PL.riseQ (qs.take j))) ⟨_, [], rfl, AT.Same.up gF, upd_same, .nil⟩ (fun j σ' H' _ hP => ?_) (fun j y σ' H' hy hP => ?_) (fun σ' H' hP => ?_)⟩
    · obtain ⟨o2, ac, rfl, sm, _⟩ := hP
      exact SqL.of (sm _ _ hD)
    · obtain ⟨o2, ac, rfl, sm, hF, hac⟩ := hP
      obtain ⟨a, q, rfl, eq, ha⟩ := hq.at hy
      have ha' := ha.up sm
      obtain ⟨da, ea⟩ := id ha'
      have lac := hac.length
      have lr := PL.rise_len (qs.take j)
      rw [List.length_take] at lr
      have hj : j < us.length := (List.getElem?_eq_some_iff.mp hy).1
      have est : PL.riseQ (qs.take (j + 1)) = PL.insQ (PL.riseQ (qs.take j)) q := by rw [List.take_add_one, eq]; exact PL.rise_step _ _
      have hbr : ∀ x ∈ PL.riseQ (qs.take j), Bits 3000 x := fun x hx => hbits x (List.mem_of_mem_take ((PL.rise_mem _ x).mp hx))
      generalize PL.riseQ (qs.take j) = rs at hac lac lr est hbr
      refine ⟨_, rfl, _, rfl, F, ac, fun i => decide (rs[i]? = some q), rfl, hF, (fun z hz => by
        obtain ⟨i, hi⟩ := List.getElem?_of_mem hz
        obtain ⟨b, _, e, _⟩ := hac.at hi
        exact ⟨b, e⟩), (fun i z hz => by
        obtain ⟨b, qb, rfl, eb, hb⟩ := hac.at hz
        obtain ⟨db, eeb⟩ := id hb
        have e : decide (rs[i]? = some q) = decide (qb = q) := by rw [eb]; simp
        show CIns (cA K) (QEq K) (.ref b) (.ref a) H' (decide (rs[i]? = some q))
        rw [e]
        exact ⟨b, a, _, _, _, _, rfl, rfl, eeb, ea, qb, q, hb, ha', rfl⟩), _, rfl, ?_⟩
      have eany : (List.range ac.length).any (fun i => decide (rs[i]? = some q)) = decide (q ∈ rs) := by
        by_cases c : q ∈ rs
        · rw [decide_eq_true c, List.any_eq_true]
          obtain ⟨i, hi⟩ := List.getElem?_of_mem c
          exact ⟨i, List.mem_range.mpr (by rw [lac]; exact (List.getElem?_eq_some_iff.mp hi).1), decide_eq_true hi⟩
        · rw [decide_eq_false c, List.any_eq_false]
          intro i _ h
          exact c (List.mem_of_getElem? (of_decide_eq_true h))
      rw [eany]
      by_cases c : q ∈ rs
      · rw [decide_eq_true c]
        refine iteF ⟨_, ac, rfl, sm, hF, ?_⟩
        rw [est]
        unfold PL.insQ
        rw [if_pos c]
        exact hac
      · rw [decide_eq_false c]
        refine iteT ?_
        refine ⟨_, rfl, tyV_lst hF, _, rfl, F, rfl, ⟨_, SqL.of hF⟩, fun C gC => ?_⟩
        refine lc_list (K := K) (a := F) (xs := ac) (fun i Hj => Same H' Hj ∧ ∃ a2, Hj C = some (.lst a2) ∧ a2.length = PL.cntL (rs.take i) q) ⟨AT.Same.up gC, [], upd_same, rfl⟩ (fun i Hj _ h => SqL.of (h.1 _ _ hF)) (fun i z Hj hz hP => ?_) (fun Hj hP => ?_)
        · obtain ⟨sj, a2, ha2, hcnt⟩ := hP
          obtain ⟨b, qb, rfl, eb, hb⟩ := hac.at hz
          have hbj := hb.up sj
          have haj := ha'.up sj
          obtain ⟨db, eeb⟩ := id hbj
          have st : PL.cntL (rs.take (i + 1)) q = PL.cntL (rs.take i) q + (if qb < q then 1 else 0) := by
            unfold PL.cntL
            rw [List.take_succ, eb, List.filter_append]
            by_cases c : qb < q <;> simp [c]
          have hle : PL.cntL (rs.take i) q ≤ i := by
            unfold PL.cntL
            exact Nat.le_trans (List.length_filter_le _ _) (by rw [List.length_take]; omega)
          have hi : i < ac.length := (List.getElem?_eq_some_iff.mp hz).1
          refine ⟨rfl, ?_⟩
          refine ⟨_, rfl, b, db, _, rfl, eeb, rfl, _, rfl, b, .ref a, qb, rfl, hbj, hbr qb (List.mem_of_getElem? eb), .amt haj, .inl ⟨q, .obj haj, hbits q (List.mem_of_getElem? eq), fun H3 s3 => ?_⟩⟩
          refine ⟨_, _, rfl, rfl, _, rfl, ?_⟩
          rw [cmp_neg]
          by_cases c : qb < q
          · rw [decide_eq_true c]
            rw [if_pos c] at st
            exact iteT ⟨_, rfl, a2, s3 _ _ ha2, (by omega), AT.Same.new (sj.trans s3) gC, _, upd_same, by rw [List.length_append, hcnt, st]; rfl⟩
          · rw [decide_eq_false c]
            rw [if_neg c] at st
            exact iteF ⟨sj.trans s3, a2, s3 _ _ ha2, by rw [hcnt, st]; rfl⟩
        · obtain ⟨sj, a2, ha2, hcnt⟩ := hP
          rw [lac, List.take_length] at hcnt
          have hle : PL.cntL rs q ≤ rs.length := by
            unfold PL.cntL
            exact List.length_filter_le _ _
          have hFj := sj _ _ hF
          refine ⟨C, a2, rfl, .inl (SqL.of ha2), _, rfl, F, ac, _, _, rfl, rfl, hFj, (by omega), (by omega), (by omega), ?_⟩
          rw [hcnt]
          refine ⟨_, _, rfl, AT.Same.new (sm.trans sj) gF, upd_same, ?_⟩
          rw [est]
          unfold PL.insQ
          rw [if_neg c]
          have hq2 := hac.up sj
          exact (((hq2.take _).app (.cons (ha'.up sj) .nil)).app (hq2.drop _)).set hFj
    · obtain ⟨o2, ac, rfl, sm, hF, hac⟩ := hP
      rw [hl, List.take_length] at hac
      exact ⟨_, rfl, k F ac H' sm gF hF hac⟩
end
end K09

set_option maxHeartbeats 4000000
namespace K09
open PySem PySem.Spec PyProof.Rows L2 AT
section
variable {P : Program} {w : World} {K : PySem.W.Frag} {mg : Str → Option Value} {base : Heap}
/-- a value that is no map -/
def NoM (K : PySem.W.Frag) (H : Hp) (v : V) : Prop := AnyV K H v ∧ ∀ a C dx fs, v = .ref a → H a = some (.ins C dx fs) → C = cA K
def spNeed (K : PySem.W.Frag) : Sp := fun vs H Q E => ∃ v, vs = [v] ∧ ((∃ m bs, v = .ref m ∧ IsMap K H m bs ∧ Q .non H) ∨ (NoM K H v ∧ Rf K "InvalidMap" "value" v H E))
theorem isi_map (T : Tx K mg base) {H : Hp} {v : V} (h : NoM K H v) : ∃ t, TyX K H v t ∧ PySem.W.kitOne K t (.ref (cM K)) = some false := by
  obtain ⟨h, hn⟩ := h
  cases h with
  | non => exact ⟨_, .base .non, T.k_NoneType_TempoMap⟩
  | bl b => exact ⟨_, .base (.bl b), T.k_bool_TempoMap⟩
  | int i => exact ⟨_, .base (.int i), T.k_int_TempoMap⟩
  | str x => exact ⟨_, .base (.str x), T.k_str_TempoMap⟩
  | lst e => exact ⟨_, .base (.lst e), T.k_list_TempoMap⟩
  | tup e => exact ⟨_, .base (.tup e), T.k_tuple_TempoMap⟩
  | dct e => exact ⟨_, .base (.dK e), T.k_dict_TempoMap⟩
  | amt e => obtain ⟨dx, e⟩ := e; exact ⟨_, T.ins_Amount e, T.k_Amount_TempoMap⟩
  | oth o e => exact absurd (hn _ _ _ _ rfl e) o.ne
theorem sc_need_map : FnScope ["value"] ["value"] (defScope s_need_map) := ⟨rfl, rfl, rfl, by decide +kernel, rfl, by decide +kernel, by decide +kernel⟩
theorem ok_need_map (T : Tx K mg base) : Ok P w K mg base 3 (d_need_map.loc K) ["value"] (spNeed K) := by
  refine mk_ok (k := 2) T.f_need_map sc_need_map (fun _ _ _ _ _ _ us hl => match us, hl with | [_], _ => rfl) (fun vs H Q E h => ?_) (fun cdv A outer s H vs Q E hr h => ?_)
  · obtain ⟨v, rfl, _⟩ := h
    rfl
  · obtain ⟨v, rfl, hc⟩ := h
    refine ⟨_, (pss_one (ps_if (pt_not (pt_val (pe_callB call_isi (by rfl) T.b_isinstance (by decide +kernel) (pa_cons (pv 0) (pa_cons (pe_gr T.g_TempoMap) pa_nil))))) (pss_one (ps_rs rfl (mx_InvalidMap T (hr.mono (by decide))) (takes_of rfl rfl rfl rfl) rfl (pv 0))) pss_nil)), ?_⟩
    rcases hc with ⟨m, bs, rfl, ⟨dx, t, ws, h1, h2, h3⟩, k⟩ | ⟨hn, k⟩
    · exact ⟨_, rfl, _, _, _, _, _, rfl, .own _, T.ins_TempoMap h1, T.k_TempoMap_TempoMap, _, rfl, iteF k⟩
    · obtain ⟨t, ty, kit⟩ := isi_map T hn
      exact ⟨_, rfl, _, _, _, _, _, rfl, .own _, ty, kit, _, rfl, iteT ⟨_, rfl, mk_at T.xc_InvalidMap.oex T.xc_InvalidMap.no (rf_of k)⟩⟩
/-! ### a map is made of points -/
theorem pt_item {H : Hp} {v : V} {p : Rat × Rat} (h : Pt K H v p) : Item K H v p := by
  obtain ⟨t, x, y, rfl, ht, hx, hy⟩ := h
  exact ⟨.ref x, .ref y, ⟨t, rfl, .inr ht⟩, .obj hx, .obj hy⟩
theorem make_pts {H : Hp} {D : Addr} {us : List V} {qs : List (Rat × Rat)} (hD : H D = some (.lst us)) (hp : Pts K H us qs) (hlen : qs.length < 1000) (hr : Rising qs) (hb : ∀ q ∈ qs, BitsP 400 q)
    (Q : VK) (E : XK) (k : ∀ m H', Same H H' → H m = none → IsMap K H' m (PL.bendF qs) → Q (.ref m) H') : ∀ x dx, H x = none → H dx = none → dx ≠ x → spMap K [.ref x, .ref D] (upd (upd H dx (.own x)) x (.ins (cM K) dx [])) (fun v H2 => v = .non ∧ Q (.ref x) H2) E := by
  intro x dx hx hdx hne
  have s1 : Same H (upd (upd H dx (.own x)) x (.ins (cM K) dx [])) := AT.Same.new (AT.Same.up hdx) hx
  have hl := hp.length
  refine ⟨x, dx, .ref D, rfl, upd_same, .lst (s1 _ _ hD), .inr ⟨us, qs, ⟨D, rfl, .inl (s1 _ _ hD)⟩, by omega, fun i p e => ?_, hr, .inl ⟨hl.symm, fun H' keep im => ⟨rfl, ?_⟩⟩⟩⟩
  · obtain ⟨v, ev, pt⟩ := hp.get e
    exact ⟨hb p (List.mem_of_getElem? e), v, ev, (pt_item pt).up s1⟩
  · rw [bend_full hr] at im
    exact k x H' (fun b o z => keep b o (ne_of_none z hx) (s1 _ _ z)) hx im
/-! ### inverse -/
theorem fine_swp {bs : List (Rat × Rat)} (h : FineM bs) : FineM (bs.map PL.swp) := by
  obtain ⟨f1, f2, f3, f4⟩ := h
  refine ⟨rising_of (PL.ris_swp (ris_of f1)), fun p hp => ?_, by rw [List.length_map]; exact f3, fun z => f4 (by simpa using z)⟩
  obtain ⟨q, hq, rfl⟩ := List.mem_map.mp hp
  exact ⟨(f2 q hq).2, (f2 q hq).1⟩
def spInv (K : PySem.W.Frag) : Sp := fun vs H Q _ => ∃ m bs, vs = [.ref m] ∧ IsMap K H m bs ∧ FineM bs ∧ ∀ r H', Same H H' → IsMap K H' r (PL.bendF (bs.map PL.swp)) → Q (.ref r) H'
theorem sc_TempoMap_inverse : FnScope ["self", "beat", "second"] ["self"] (defScope s_TempoMap_inverse) := ⟨rfl, rfl, rfl, by decide +kernel, rfl, by decide +kernel, by decide +kernel⟩
theorem ok_TempoMap_inverse (T : Tx K mg base) : Ok P w K mg base 15 (d_TempoMap_inverse.loc K) ["self"] (spInv K) := by
  refine mk_ok (k := 14) T.f_TempoMap_inverse sc_TempoMap_inverse (fun _ _ _ _ _ _ us hl => match us, hl with | [_], _ => rfl) (fun vs H Q E h => ?_) (fun cdv A outer s H vs Q E hr h => ?_)
  · obtain ⟨m, bs, rfl, _⟩ := h
    rfl
  · obtain ⟨m, bs, rfl, ⟨dx, t, ws, h1, h2, h3⟩, hf, k⟩ := h
    refine ⟨_, (pss_one (ps_ret (ok_make T.mkr_TempoMap (ok_TempoMap_init_ T) (hr.mono (by decide)) rfl T.g_TempoMap (passE rfl rfl rfl rfl) (pa_cons (pe_lc (own := [("beat", 1), ("second", 2)]) (g := (gTup K 2 (gCons (gName 1) (gCons (gName 2) gNil)))) (tt := tYes) (by rfl) sc_TempoMap_inverse.nd (pi_tup (pe_fld (pv 0) rfl)) (blkOk_by (own := [("beat", 1), ("second", 2)]) (N := ["self", "beat", "second"]) (sc := defScope s_TempoMap_inverse) (by decide +kernel)) (fun _ _ _ _ _ => (pg_tup rfl (pgs_cons (pg_name (i := 1) sc_TempoMap_inverse.nd rfl (Or.inl rfl)) (pgs_cons (pg_name (i := 2) sc_TempoMap_inverse.nd rfl (Or.inl rfl)) pgs_nil)))) (fun _ _ _ _ _ => pts_nil) (fun _ _ _ _ _ => (pe_tup (pa_cons (pv 2) (pa_cons (pv 1) pa_nil))))) pa_nil)))), ?_⟩
    obtain ⟨f1, f2, f3, f4⟩ := id hf
    obtain ⟨g1, g2, g3, g4⟩ := fine_swp hf
    have hsz : sizeLine = 16777216 := sizeLine_eq
    have hl := h3.length
    refine ⟨_, rfl, m, _, dx, _, _, rfl, h1, T.cls_TempoMap, T.no_TempoMap_own_points, rfl, t, rfl, ⟨_, SqT.of h2⟩, fun D hD => ?_⟩
    refine lc_tup (K := K) (a := t) (xs := ws) (fun i H' => Same H H' ∧ ∃ acc, H' D = some (.lst acc) ∧ Pts K H' acc ((bs.take i).map PL.swp)) ⟨AT.Same.up hD, [], upd_same, .nil⟩ (fun i H' _ hP => SqT.of (hP.1 _ _ h2)) (fun i z H' hz hP => ?_) (fun H' hP => ?_)
    · obtain ⟨sm, acc, hacc, hpa⟩ := hP
      obtain ⟨q, eq, pt⟩ := h3.at hz
      obtain ⟨tt, a, b, rfl, htt, hqa, hqb⟩ := pt.up sm
      have lu := hpa.length
      rw [List.length_map, List.length_take] at lu
      refine ⟨tt, _, rfl, SqT.of htt, rfl, _, _, rfl, _, _, rfl, rfl, rfl, ?_⟩
      dsimp only [tYes]
      refine iteT ⟨_, rfl, _, rfl, (by show 2 ≤ sizeLine; decide), fun t2 gt2 => ?_⟩
      have sT := AT.Same.up (o := .tup [.ref b, .ref a]) gt2
      refine ⟨acc, sT _ _ hacc, (by omega), AT.Same.new (sm.trans sT) hD, acc ++ [.ref t2], upd_same, ?_⟩
      rw [List.take_add_one, eq, List.map_append]
      exact ((hpa.up sT).app ⟨t2, b, a, rfl, upd_same, hqb.up sT, hqa.up sT⟩).set (sT _ _ hacc)
    · obtain ⟨sm, acc, hacc, hpa⟩ := hP
      rw [hl, List.take_length] at hpa
      exact make_pts hacc hpa g3 g1 g2 Q E fun r H' s hr im => k r H' (sm.trans s) im
/-! ### then -/
def places (bs cs : List (Rat × Rat)) : List Rat := PL.riseQ (bs.map (·.1) ++ cs.map fun q => PL.ledR (bs.map PL.swp) q.1)
def spThen (K : PySem.W.Frag) : Sp := fun vs H Q E => ∃ m bs v, vs = [.ref m, v] ∧ IsMap K H m bs ∧ FineM bs ∧
  ((∃ m' cs, v = .ref m' ∧ IsMap K H m' cs ∧ FineM cs ∧ bs.length + cs.length < 500 ∧ (∀ x ∈ places bs cs, Bits 400 x ∧ Bits 400 (PL.ledR bs x) ∧ Bits 400 (PL.ledR cs (PL.ledR bs x))) ∧
    ∀ r H', Same H H' → IsMap K H' r (PL.bendF (PL.pts (fun x => PL.ledR cs (PL.ledR bs x)) (places bs cs))) → Q (.ref r) H') ∨
  (NoM K H v ∧ Rf K "InvalidMap" "value" v H E))
theorem sc_TempoMap_then : FnScope ["self", "other", "beat", "second", "beats"] ["self", "other"] (defScope s_TempoMap_then) := ⟨rfl, rfl, rfl, by decide +kernel, rfl, by decide +kernel, by decide +kernel⟩
theorem ok_TempoMap_then (T : Tx K mg base) : Ok P w K mg base 15 (d_TempoMap_then.loc K) ["self", "other"] (spThen K) := by
  refine mk_ok (k := 14) T.f_TempoMap_then sc_TempoMap_then (fun _ _ _ _ _ _ us hl => match us, hl with | [_, _], _ => rfl) (fun vs H Q E h => ?_) (fun cdv A outer s H vs Q E hr h => ?_)
  · obtain ⟨m, bs, v, rfl, _⟩ := h
    rfl
  · obtain ⟨m, bs, v, rfl, im, hf, hc⟩ := h
    refine ⟨_, (pss_cons (ps_expr (ok_call (ok_need_map T) (hr.mono (by decide)) rfl T.g_need_map (passE rfl rfl rfl rfl) (pa_cons (pv 1) pa_nil)))
      (pss_cons (ps_set (i := 4) sc_TempoMap_then.nd rfl (Or.inl rfl) (pe_op op_cat (pe_lc (own := [("beat", 2), ("second", 3)]) (g := (gTup K 2 (gCons (gName 2) (gCons (gName 3) gNil)))) (tt := tYes) (by rfl) sc_TempoMap_then.nd (pi_tup (pe_fld (pv 0) rfl)) (blkOk_by (own := [("beat", 2), ("second", 3)]) (N := ["self", "other", "beat", "second", "beats"]) (sc := defScope s_TempoMap_then) (by decide +kernel)) (fun _ _ _ _ _ => (pg_tup rfl (pgs_cons (pg_name (i := 2) sc_TempoMap_then.nd rfl (Or.inl rfl)) (pgs_cons (pg_name (i := 3) sc_TempoMap_then.nd rfl (Or.inl rfl)) pgs_nil)))) (fun _ _ _ _ _ => pts_nil) (fun _ _ _ _ _ => (pv 2))) (pe_lc (own := [("beat", 2), ("second", 3)]) (g := (gTup K 2 (gCons (gName 2) (gCons (gName 3) gNil)))) (tt := tYes) (by rfl) sc_TempoMap_then.nd (pi_list (ok_meth0 T.cls_TempoMap T.m_TempoMap_points (ok_TempoMap_points T) (hr.mono (by decide)) passL (pv 1) )) (blkOk_by (own := [("beat", 2), ("second", 3)]) (N := ["self", "other", "beat", "second", "beats"]) (sc := defScope s_TempoMap_then) (by decide +kernel)) (fun _ _ _ _ _ => (pg_tup rfl (pgs_cons (pg_name (i := 2) sc_TempoMap_then.nd rfl (Or.inl rfl)) (pgs_cons (pg_name (i := 3) sc_TempoMap_then.nd rfl (Or.inl rfl)) pgs_nil)))) (fun _ _ _ _ _ => pts_nil) (fun _ _ _ _ _ => (ok_meth T.cls_TempoMap T.m_TempoMap_beat_of (ok_TempoMap_beat_of T) (hr.mono (by decide)) passL (pv 0) (pa_cons (pv 2) pa_nil))))))
      (pss_one (ps_ret (ok_make T.mkr_TempoMap (ok_TempoMap_init_ T) (hr.mono (by decide)) rfl T.g_TempoMap (passE rfl rfl rfl rfl) (pa_cons (pe_lc (own := [("beat", 2)]) (g := (gName 2)) (tt := tYes) (by rfl) sc_TempoMap_then.nd (pi_list (ok_call (ok_rising T) (hr.mono (by decide)) rfl T.g_rising passL (pa_cons (pv 4) pa_nil))) (blkOk_by (own := [("beat", 2)]) (N := ["self", "other", "beat", "second", "beats"]) (sc := defScope s_TempoMap_then) (by decide +kernel)) (fun _ _ _ _ _ => (pg_name (i := 2) sc_TempoMap_then.nd rfl (Or.inl rfl))) (fun _ _ _ _ _ => pts_nil) (fun _ _ _ _ _ => (pe_tup (pa_cons (pv 2) (pa_cons (ok_callI T.co_TempoMap (ok_TempoMap_call_ T) (hr.mono (by decide)) passL (pv 1) (pa_cons (ok_callI T.co_TempoMap (ok_TempoMap_call_ T) (hr.mono (by decide)) passL (pv 0) (pa_cons (pv 2) pa_nil)) pa_nil)) pa_nil))))) pa_nil)))))), ?_⟩
    rcases hc with ⟨m', cs, rfl, im', hf', hlen, hbits, k⟩ | z
    · refine ⟨_, rfl, _, rfl, .inl ⟨m', cs, rfl, im', ?_⟩⟩
      obtain ⟨dx, t, ws, h1, h2, h3⟩ := id im
      obtain ⟨dx', t', ws', e1, e2, e3⟩ := id im'
      obtain ⟨f1, f2, f3, f4⟩ := id hf
      obtain ⟨g1, g2, g3, g4⟩ := id hf'
      have hsz : sizeLine = 16777216 := sizeLine_eq
      have hl := h3.length
      refine ⟨_, rfl, m, _, dx, _, _, rfl, h1, T.cls_TempoMap, T.no_TempoMap_own_points, rfl, t, rfl, ⟨_, SqT.of h2⟩, fun D hD => ?_⟩
      refine lc_tup (K := K) (a := t) (xs := ws) (fun i H' => Same H H' ∧ ∃ acc, H' D = some (.lst acc) ∧ Qs K H' acc ((bs.take i).map (·.1))) ⟨AT.Same.up hD, [], upd_same, .nil⟩ (fun i H' _ hP => SqT.of (hP.1 _ _ h2)) (fun i z H' hz hP => ?_) (fun HA hP => ?_)
      · obtain ⟨sm, acc, hacc, hpa⟩ := hP
        obtain ⟨q, eq, pt⟩ := h3.at hz
        obtain ⟨tt, a, b, rfl, htt, hqa, hqb⟩ := pt.up sm
        have lu := hpa.length
        rw [List.length_map, List.length_take] at lu
        refine ⟨tt, _, rfl, SqT.of htt, rfl, _, _, rfl, _, _, rfl, rfl, rfl, ?_⟩
        dsimp only [tYes]
        refine iteT ⟨_, rfl, acc, hacc, (by omega), AT.Same.new sm hD, acc ++ [.ref a], upd_same, ?_⟩
        rw [List.take_add_one, eq, List.map_append]
        exact (hpa.app (.cons hqa .nil)).set hacc
      obtain ⟨sA, accA, hA, qA⟩ := hP
      rw [hl, List.take_length] at qA
      have lA := qA.length
      rw [List.length_map] at lA
      refine ⟨_, rfl, m', dx', _, rfl, sA _ _ e1, rfl, m', cs, rfl, im'.up sA, fun D2 us2 HB sB hD2 hl2 hp2 => ?_⟩
      have l2 := hp2.length
      have sAB := sA.trans sB
      refine ⟨D2, rfl, ⟨_, SqL.of hl2⟩, fun D3 hD3 => ?_⟩
      refine lc_list (K := K) (a := D2) (xs := us2) (fun j Hj => Same HB Hj ∧ ∃ acc, Hj D3 = some (.lst acc) ∧ Qs K Hj acc ((cs.take j).map fun q => PL.ledR (bs.map PL.swp) q.1)) ⟨AT.Same.up hD3, [], upd_same, .nil⟩ (fun j Hj _ h => SqL.of (h.1 _ _ hl2)) (fun j x Hj hx hP => ?_) (fun HC hP => ?_)
      · obtain ⟨sj, acc, hacc, hpa⟩ := hP
        obtain ⟨q, eq, pt⟩ := hp2.at hx
        obtain ⟨tt, a, b, rfl, htt, hqa, hqb⟩ := pt.up sj
        have lu := hpa.length
        rw [List.length_map, List.length_take] at lu
        have sHj := sAB.trans sj
        refine ⟨tt, _, rfl, SqT.of htt, rfl, _, _, rfl, _, _, rfl, rfl, rfl, ?_⟩
        dsimp only [tYes]
        refine iteT ⟨_, rfl, m, dx, _, rfl, sHj _ _ h1, rfl, _, rfl, m, bs, .ref a, rfl, im.up sHj, hf, .amt hqa, .inl ⟨q.1, .obj hqa, (g2 q (List.mem_of_getElem? eq)).1, fun r H4 s4 hr4 => ?_⟩⟩
        refine ⟨acc, s4 _ _ hacc, (by omega), AT.Same.new (sj.trans s4) hD3, acc ++ [.ref r], upd_same, ?_⟩
        rw [List.take_add_one, eq, List.map_append]
        exact ((hpa.up s4).app (.cons hr4 .nil)).set (s4 _ _ hacc)
      obtain ⟨sC, accC, hC, qC⟩ := hP
      rw [l2, List.take_length] at qC
      have lC := qC.length
      rw [List.length_map] at lC
      have sBC := sB.trans sC
      have sAC := sA.trans sBC
      refine ⟨D, D3, accA, accC, rfl, rfl, sBC _ _ hA, hC, (by omega), fun B gB => ?_⟩
      have sU := AT.Same.up (o := .lst (accA ++ accC)) gB
      have qAll := ((qA.up sBC).app qC).up sU
      have hbits0 : ∀ q ∈ bs.map (·.1) ++ cs.map (fun q => PL.ledR (bs.map PL.swp) q.1), Bits 3000 q := fun q hq => (hbits q ((PL.rise_mem _ q).mpr hq)).1.mono (by decide)
      refine ⟨_, rfl, B, _, _, rfl, upd_same, qAll, (by simp only [List.length_append, List.length_map]; omega), hbits0, fun D4 us4 HD sD hD4 hl4 q4 => ?_⟩
      have l4 := q4.length
      have hpl : PL.riseQ (bs.map (·.1) ++ cs.map (fun q => PL.ledR (bs.map PL.swp) q.1)) = places bs cs := rfl
      rw [hpl] at q4 l4
      have lpl : (places bs cs).length < 500 := by
        have := PL.rise_len (bs.map (·.1) ++ cs.map fun q => PL.ledR (bs.map PL.swp) q.1)
        rw [hpl, List.length_append, List.length_map, List.length_map] at this
        omega
      have sHD := (sAC.trans sU).trans sD
      refine ⟨D4, rfl, ⟨_, SqL.of hl4⟩, fun L gL => ?_⟩
      refine lc_list (K := K) (a := D4) (xs := us4) (fun j Hj => Same HD Hj ∧ ∃ acc, Hj L = some (.lst acc) ∧ Pts K Hj acc (PL.pts (fun x => PL.ledR cs (PL.ledR bs x)) ((places bs cs).take j))) ⟨AT.Same.up gL, [], upd_same, .nil⟩ (fun j Hj _ h => SqL.of (h.1 _ _ hl4)) (fun j x Hj hx hP => ?_) (fun HE hP => ?_)
      · obtain ⟨sj, acc, hacc, hpa⟩ := hP
        obtain ⟨a, q, rfl, eq, ha⟩ := q4.at hx
        have haj := ha.up sj
        have lu := hpa.length
        unfold PL.pts at lu
        rw [List.length_map, List.length_take] at lu
        have sHj := sHD.trans sj
        obtain ⟨b1, b2, b3⟩ := hbits q (List.mem_of_getElem? eq)
        refine ⟨rfl, ?_⟩
        dsimp only [tYes]
        refine iteT ⟨_, rfl, _, rfl, m', rfl, _, rfl, m, rfl, _, rfl, ⟨dx, _, sHj _ _ h1⟩, m, bs, .ref a, rfl, im.up sHj, hf, .amt haj, .inl ⟨q, .obj haj, b1, fun r H4 s4 hr4 => ?_⟩⟩
        refine ⟨⟨dx', _, (sHj.trans s4) _ _ e1⟩, m', cs, .ref r, rfl, im'.up (sHj.trans s4), hf', .amt hr4, .inl ⟨_, .obj hr4, b2, fun r2 H5 s5 hr5 => ?_⟩⟩
        refine ⟨(by show 2 ≤ sizeLine; decide), fun t2 gt2 => ?_⟩
        have sT := AT.Same.up (o := .tup [.ref a, .ref r2]) gt2
        have s45 := (s4.trans s5).trans sT
        refine ⟨acc, s45 _ _ hacc, (by omega), AT.Same.new (sj.trans s45) gL, acc ++ [.ref t2], upd_same, ?_⟩
        unfold PL.pts at hpa ⊢
        rw [List.take_add_one, eq, List.map_append]
        exact ((hpa.up s45).app (p := (q, PL.ledR cs (PL.ledR bs q))) ⟨t2, a, r2, rfl, upd_same, haj.up s45, hr5.up sT⟩).set (s45 _ _ hacc)
      · obtain ⟨sE, acc, hacc, hpa⟩ := hP
        rw [l4, List.take_length] at hpa
        refine make_pts hacc hpa (by unfold PL.pts; rw [List.length_map]; omega) (rising_of (PL.pts_ris (PL.rise_asc _) fun x y h => PL.led_mono (ris_of g1) (PL.led_mono (ris_of f1) h))) (fun q hq => ?_) Q E fun r H' s hr im2 => k r H' ((sHD.trans sE).trans s) im2
        obtain ⟨x, hx, rfl⟩ := List.mem_map.mp hq
        exact ⟨(hbits x hx).1, (hbits x hx).2.2⟩
    · exact ⟨_, rfl, _, rfl, .inr z⟩
end
end K09

set_option maxHeartbeats 4000000
namespace K09
open PySem PySem.Spec PyProof.Rows L2 AT
section
variable {P : Program} {w : World} {K : PySem.W.Frag} {mg : Str → Option Value} {base : Heap}
/-- what is refused at which door -/
def Refd (K : PySem.W.Frag) (H : Hp) (door : Nat) (v : V) (r : Str) : Prop :=
  (door ≤ 2 ∧ AnyV K H v ∧ wholeV v = false ∧ ¬ isA K H v ∧ r = "amount") ∨ (door = 3 ∧ NoM K H v ∧ r = "map")
def spCaught (K : PySem.W.Frag) : Sp := fun vs H Q _ => ∃ (door : Nat) (m : Addr) (bs : List (Rat × Rat)) (v : V) (r : Str), vs = [.int door, .ref m, v] ∧ IsMap K H m bs ∧ FineM bs ∧ Refd K H door v r ∧ ∀ q H', Same H H' → H q = none → H' q = some (.lst [.str r, v]) → Q (.ref q) H'
theorem sc_w_caught : FnScope ["_law_door", "_law_tempo", "_law_thing", "e"] ["_law_door", "_law_tempo", "_law_thing"] (defScope s_w_caught) := ⟨rfl, rfl, rfl, by decide +kernel, rfl, by decide +kernel, by decide +kernel⟩
theorem ok_w_caught (T : Tx K mg base) : Ok P w K mg base 17 (d_w_caught.loc K) ["_law_door", "_law_tempo", "_law_thing"] (spCaught K) := by
  refine mk_ok (k := 16) T.f_w_caught sc_w_caught (fun _ _ _ _ _ _ us hl => match us, hl with | [_, _, _], _ => rfl) (fun vs H Q E h => ?_) (fun cdv A outer s H vs Q E hr h => ?_)
  · obtain ⟨door, m, bs, v, r, rfl, _⟩ := h
    rfl
  · obtain ⟨door, m, bs, v, r, rfl, im, hf, hrf, k⟩ := h
    refine ⟨_, (pss_one (ps_try_mas (tb := _) rfl rfl takes0 (fun W pn xe tk _ => (pss_cons (ps_if (pt_cmpR op_eq (pv 0) pe_int (nomark _)) (pss_one (ps_ret (pe_lst (pa_cons pe_str (pa_cons (ok_methS T.cls_TempoMap T.m_TempoMap_then (ok_TempoMap_then T) (hr.mono (by decide)) tk (pv 1) (pa_cons (pv 2) pa_nil)) pa_nil))))) pss_nil)
      (pss_one (ps_ret (pe_lst (pa_cons pe_str (pa_cons (pe_ifExp (pt_cmpR op_eq (pv 0) pe_int (nomark _)) (ok_callOS T.co_TempoMap (ok_TempoMap_call_ T) (hr.mono (by decide)) tk (pv 1) (pa_cons (pv 2) pa_nil)) (pe_ifExp (pt_cmpR op_eq (pv 0) pe_int (nomark _)) (ok_methS T.cls_TempoMap T.m_TempoMap_beat_of (ok_TempoMap_beat_of T) (hr.mono (by decide)) tk (pv 1) (pa_cons (pv 2) pa_nil)) (ok_methS T.cls_TempoMap T.m_TempoMap_pace (ok_TempoMap_pace T) (hr.mono (by decide)) tk (pv 1) (pa_cons (pv 2) pa_nil)))) pa_nil))))))) (.cons sc_w_caught.nd (i := 3) rfl rfl ⟨rfl, by decide, .inl T.g_InvalidAmount⟩ (fun a oe cls d pn hz hf => (pss_one (ps_ret (pe_lst (pa_cons pe_str (pa_cons (pe_xf T.xc_InvalidAmount.xf T.xc_InvalidAmount.no hz hf (pv 3)) pa_nil)))))) (.cons sc_w_caught.nd (i := 3) rfl rfl ⟨rfl, by decide, .inl T.g_InvalidMap⟩ (fun a oe cls d pn hz hf => (pss_one (ps_ret (pe_lst (pa_cons pe_str (pa_cons (pe_xf T.xc_InvalidMap.xf T.xc_InvalidMap.no hz hf (pv 3)) pa_nil)))))) .nil)))), ?_⟩
    obtain ⟨dx, t, ws, h1, h2, h3⟩ := id im
    have eqd : ∀ n : Nat, decide (V.int (door : Int) = V.int (n : Int)) = decide (door = n) := fun n => by
      by_cases c : door = n
      · subst c; simp
      · rw [decide_eq_false c, decide_eq_false (fun z => c (by have := V.int.inj z; omega))]
    refine ⟨_, rfl, rfl, _, rfl, ?_⟩
    have e3 := eqd 3
    have e0 := eqd 0
    have e1 := eqd 1
    rw [show ((3 : Nat) : Int) = 3 from rfl] at e3
    rw [show ((0 : Nat) : Int) = 0 from rfl] at e0
    rw [show ((1 : Nat) : Int) = 1 from rfl] at e1
    rw [e3]
    rcases hrf with ⟨hd, hv, hw, hn, rfl⟩ | ⟨rfl, hn, rfl⟩
    · rw [decide_eq_false (by omega : ¬ door = 3)]
      have fin : ∀ (E2 : XK), (∀ H2 d, Same H H2 → H d = none → H2 d = some (.xd [("value", v)]) → E2 (.ref (He.ga K "InvalidAmount")) (some d) H2) → Rf K "InvalidAmount" "value" v H E2 := fun E2 z => z
      refine iteF ⟨_, rfl, rfl, _, rfl, ?_⟩
      rw [e0]
      by_cases c0 : door = 0
      · rw [decide_eq_true c0]
        refine iteT ⟨_, rfl, m, rfl, _, rfl, ⟨_, _, h1⟩, m, bs, v, rfl, im, hf, hv, .inr ⟨hw, hn, fun H2 d s2 hd2 hx => ⟨true, T.ex_InvalidAmount_InvalidAmount, fun _ a ha => ?_, nofun⟩⟩⟩
        exact ⟨_, rfl, rfl, rfl, d, _, v, rfl, hx, rfl, (by show 2 ≤ sizeLine; decide), fun q hq => k q _ (s2.trans (AT.Same.up hq)) (none_of s2 hq) upd_same⟩
      · rw [decide_eq_false c0]
        refine iteF ⟨_, rfl, rfl, _, rfl, ?_⟩
        rw [e1]
        by_cases c1 : door = 1
        · rw [decide_eq_true c1]
          refine iteT ⟨_, rfl, m, dx, _, rfl, h1, rfl, _, rfl, m, bs, v, rfl, im, hf, hv, .inr ⟨hw, hn, fun H2 d s2 hd2 hx => ⟨true, T.ex_InvalidAmount_InvalidAmount, fun _ a ha => ?_, nofun⟩⟩⟩
          exact ⟨_, rfl, rfl, rfl, d, _, v, rfl, hx, rfl, (by show 2 ≤ sizeLine; decide), fun q hq => k q _ (s2.trans (AT.Same.up hq)) (none_of s2 hq) upd_same⟩
        · rw [decide_eq_false c1]
          refine iteF ⟨_, rfl, m, dx, _, rfl, h1, rfl, _, rfl, m, bs, v, rfl, im, hf, hv, .inr ⟨hw, hn, fun H2 d s2 hd2 hx => ⟨true, T.ex_InvalidAmount_InvalidAmount, fun _ a ha => ?_, nofun⟩⟩⟩
          exact ⟨_, rfl, rfl, rfl, d, _, v, rfl, hx, rfl, (by show 2 ≤ sizeLine; decide), fun q hq => k q _ (s2.trans (AT.Same.up hq)) (none_of s2 hq) upd_same⟩
    · rw [decide_eq_true rfl]
      refine iteT ⟨_, rfl, m, dx, _, rfl, h1, rfl, _, rfl, m, bs, v, rfl, im, hf, .inr ⟨hn, fun H2 d s2 hd2 hx => ⟨false, T.ex_InvalidMap_InvalidAmount, nofun, fun _ => ⟨true, T.ex_InvalidMap_InvalidMap, fun _ a ha => ?_, nofun⟩⟩⟩⟩
      exact ⟨_, rfl, rfl, rfl, d, _, v, rfl, hx, rfl, (by show 2 ≤ sizeLine; decide), fun q hq => k q _ (s2.trans (AT.Same.up hq)) (none_of s2 hq) upd_same⟩
/-! ### the law's maps -/
def spMade (K : PySem.W.Frag) : Sp := fun vs H Q _ => ∃ D ws ps, vs = [.ref D] ∧ Lst H D ws ps ∧ FinL ps ∧ ∀ r H', Same H H' → H r = none → IsMap K H' r (PL.bendF ps) → Q (.ref r) H'
theorem sc_w_made : FnScope ["_law_points_here", "_law_one", "_law_two"] ["_law_points_here"] (defScope s_w_made) := ⟨rfl, rfl, rfl, by decide +kernel, rfl, by decide +kernel, by decide +kernel⟩
theorem ok_w_made (T : Tx K mg base) : Ok P w K mg base 15 (d_w_made.loc K) ["_law_points_here"] (spMade K) := by
  refine mk_ok (k := 14) T.f_w_made sc_w_made (fun _ _ _ _ _ _ us hl => match us, hl with | [_], _ => rfl) (fun vs H Q E h => ?_) (fun cdv A outer s H vs Q E hr h => ?_)
  · obtain ⟨D, ws, ps, rfl, _⟩ := h
    rfl
  · obtain ⟨D, ws, ps, rfl, ⟨hD, hp⟩, ⟨hris, hbits, hlen⟩, k⟩ := h
    refine ⟨_, (pss_one (ps_ret (ok_make T.mkr_TempoMap (ok_TempoMap_init_ T) (hr.mono (by decide)) rfl T.g_TempoMap (passE rfl rfl rfl rfl) (pa_cons (pe_lc (own := [("_law_one", 1), ("_law_two", 2)]) (g := (gTup K 2 (gCons (gName 1) (gCons (gName 2) gNil)))) (tt := tYes) (by rfl) sc_w_made.nd (pi_list (pv 0)) (blkOk_by (own := [("_law_one", 1), ("_law_two", 2)]) (N := ["_law_points_here", "_law_one", "_law_two"]) (sc := defScope s_w_made) (by decide +kernel)) (fun _ _ _ _ _ => (pg_tup rfl (pgs_cons (pg_name (i := 1) sc_w_made.nd rfl (Or.inl rfl)) (pgs_cons (pg_name (i := 2) sc_w_made.nd rfl (Or.inl rfl)) pgs_nil)))) (fun _ _ _ _ _ => pts_nil) (fun _ _ _ _ _ => (pe_tup (pa_cons (ok_make T.mkr_Amount (ok_Amount_init_ T) (hr.mono (by decide)) rfl T.g_Amount passL (pa_cons (pe_ix (show IxR _ (rIxT K) from ix_tup) (pv 1) pe_int (fun _ _ => rfl)) (pa_cons (pe_ix (show IxR _ (rIxT K) from ix_tup) (pv 1) pe_int (fun _ _ => rfl)) pa_nil))) (pa_cons (ok_make T.mkr_Amount (ok_Amount_init_ T) (hr.mono (by decide)) rfl T.g_Amount passL (pa_cons (pe_ix (show IxR _ (rIxT K) from ix_tup) (pv 2) pe_int (fun _ _ => rfl)) (pa_cons (pe_ix (show IxR _ (rIxT K) from ix_tup) (pv 2) pe_int (fun _ _ => rfl)) pa_nil))) pa_nil))))) pa_nil)))), ?_⟩
    have hl := hp.length
    have hsz : sizeLine = 16777216 := sizeLine_eq
    have big8 : ∀ {q : Rat}, Bits 400 q → ((q.den : Int)).natAbs < 2 ^ 8000 := fun h => Nat.lt_trans (den_bits h) (Nat.pow_lt_pow_right (by decide) (by decide))
    refine ⟨_, rfl, D, rfl, ⟨_, SqL.of hD⟩, fun L gL => ?_⟩
    refine lc_list (K := K) (a := D) (xs := ws) (fun j Hj => Same H Hj ∧ ∃ acc, Hj L = some (.lst acc) ∧ Pts K Hj acc (ps.take j)) ⟨AT.Same.up gL, [], upd_same, .nil⟩ (fun j Hj _ h => SqL.of (h.1 _ _ hD)) (fun j x Hj hx hP => ?_) (fun HE hP => ?_)
    · obtain ⟨sj, acc, hacc, hpa⟩ := hP
      obtain ⟨q, eq, lpq⟩ := hp.at hx
      obtain ⟨t, cx, cy, rfl, ht, ⟨ax, rfl, hax⟩, ⟨ay, rfl, hay⟩⟩ := lpq.up sj
      have bq := hbits q (List.mem_of_getElem? eq)
      have lu := hpa.length
      rw [List.length_take] at lu
      refine ⟨t, _, rfl, SqT.of ht, rfl, _, _, rfl, _, _, rfl, rfl, rfl, ?_⟩
      dsimp only [tYes]
      refine iteT ⟨_, rfl, ax, _, 0, _, rfl, rfl, SqT.of hax, rfl, _, rfl, ax, _, 1, _, rfl, rfl, SqT.of hax, rfl, fun u e gu ge _ => ⟨u, e, _, _, rfl, upd_same, .int _, .int _, .inl ⟨_, _, rfl, rfl, den_ne q.1, big8 bq.1, rfl, ?_⟩⟩⟩
      have sM := made_same (o1 := .ins (cA K) e []) (o2 := .ins (cA K) e (amtQ (Rat.divInt q.1.num q.1.den))) gu ge
      have qu : IsQ K (upd (upd (upd Hj e (.own u)) u (.ins (cA K) e [])) u (.ins (cA K) e (amtQ (Rat.divInt q.1.num q.1.den)))) u q.1 := ⟨e, upd_same.trans (congrArg (fun z => some (HO.ins (cA K) e (amtQ z))) (q_self q.1))⟩
      generalize upd (upd (upd Hj e (.own u)) u (.ins (cA K) e [])) u (.ins (cA K) e (amtQ (Rat.divInt q.1.num q.1.den))) = H1 at sM qu ⊢
      have hay1 := sM _ _ hay
      refine ⟨_, rfl, ay, _, 0, _, rfl, rfl, SqT.of hay1, rfl, _, rfl, ay, _, 1, _, rfl, rfl, SqT.of hay1, rfl, fun u2 e2 gu2 ge2 _ => ⟨u2, e2, _, _, rfl, upd_same, .int _, .int _, .inl ⟨_, _, rfl, rfl, den_ne q.2, big8 bq.2, rfl, ?_⟩⟩⟩
      have sM2 := made_same (o1 := .ins (cA K) e2 []) (o2 := .ins (cA K) e2 (amtQ (Rat.divInt q.2.num q.2.den))) gu2 ge2
      have qu2 : IsQ K (upd (upd (upd H1 e2 (.own u2)) u2 (.ins (cA K) e2 [])) u2 (.ins (cA K) e2 (amtQ (Rat.divInt q.2.num q.2.den)))) u2 q.2 := ⟨e2, upd_same.trans (congrArg (fun z => some (HO.ins (cA K) e2 (amtQ z))) (q_self q.2))⟩
      generalize upd (upd (upd H1 e2 (.own u2)) u2 (.ins (cA K) e2 [])) u2 (.ins (cA K) e2 (amtQ (Rat.divInt q.2.num q.2.den))) = H2 at sM2 qu2 ⊢
      refine ⟨(by show 2 ≤ sizeLine; decide), fun t2 gt2 => ?_⟩
      have sT := AT.Same.up (o := .tup [.ref u, .ref u2]) gt2
      have s45 := (sM.trans sM2).trans sT
      refine ⟨acc, s45 _ _ hacc, (by omega), AT.Same.new (sj.trans s45) gL, acc ++ [.ref t2], upd_same, ?_⟩
      rw [List.take_add_one, eq]
      exact ((hpa.up s45).app ⟨t2, u, u2, rfl, upd_same, (qu.up sM2).up sT, qu2.up sT⟩).set (s45 _ _ hacc)
    · obtain ⟨sE, acc, hacc, hpa⟩ := hP
      rw [hl, List.take_length] at hpa
      exact make_pts hacc hpa (by omega) hris hbits Q E fun r H' s hr im => k r H' (sE.trans s) (none_of sE hr) im
/-! ### the pace, by the law -/
def spPacW : Sp := fun vs H Q _ => ∃ D ws ps v x, vs = [.ref D, v] ∧ Lst H D ws ps ∧ FinL ps ∧ PQ H v x ∧ Bits 400 x ∧ ∀ u H', Same H H' → PQ H' u (PL.paceR 1 ps x) → Q u H'
theorem sc_w_pace : FnScope ["_law_points_here", "_law_beat", "_law_point", "_law_many"] ["_law_points_here", "_law_beat"] (defScope s_w_pace) := ⟨rfl, rfl, rfl, by decide +kernel, rfl, by decide +kernel, by decide +kernel⟩
theorem ok_w_pace (T : Tx K mg base) : Ok P w K mg base 6 (d_w_pace.loc K) ["_law_points_here", "_law_beat"] spPacW := by
  refine mk_ok (k := 5) T.f_w_pace sc_w_pace (fun _ _ _ _ _ _ us hl => match us, hl with | [_, _], _ => rfl) (fun vs H Q E h => ?_) (fun cdv A outer s H vs Q E hr h => ?_)
  · obtain ⟨D, ws, ps, v, x, rfl, _⟩ := h
    rfl
  · obtain ⟨D, ws, ps, v, x, rfl, hL, hF, hv, bx, k⟩ := h
    obtain ⟨hD, hp⟩ := id hL
    obtain ⟨hris, hbits, hlen⟩ := id hF
    refine ⟨_, (pss_cons (ps_set (i := 3) sc_w_pace.nd rfl (Or.inl rfl) (pe_callB call_len_seq (by rfl) T.b_len (by decide +kernel) (pa_cons (pe_lc (own := [("_law_point", 2)]) (g := (gName 2)) (by rfl) sc_w_pace.nd (pi_list (pv 0)) (blkOk_by (own := [("_law_point", 2)]) (N := ["_law_points_here", "_law_beat", "_law_point", "_law_many"]) (sc := defScope s_w_pace) (by decide +kernel)) (fun _ _ _ _ _ => (pg_name (i := 2) sc_w_pace.nd rfl (Or.inl rfl))) (fun _ _ _ _ _ => (pts_one (pt_not (pt_val (ok_call (ok_w_less T) (hr.mono (by decide)) rfl T.g_w_less passL (pa_cons (pv 1) (pa_cons (pe_ix (show IxR _ (rIxT K) from ix_tup) (pv 2) pe_int (fun _ _ => rfl)) pa_nil))))))) (fun _ _ _ _ _ => (pv 2))) pa_nil)))
      (pss_one (ps_ret (pe_ix ix_list (ok_call (ok_w_paces T) (hr.mono (by decide)) rfl T.g_w_paces passL (pa_cons (pv 0) pa_nil)) (pv 3) (fun _ _ => rfl))))), ?_⟩
    have hl := hp.length
    have hsz : sizeLine = 16777216 := sizeLine_eq
    have up : ∀ {q : Rat} {m k : Nat}, Bits m q → m ≤ k → Bits k q := fun h l => h.mono l
    refine ⟨_, rfl, D, rfl, ⟨_, SqL.of hD⟩, fun E1 gE => ?_⟩
    refine lc_list (K := K) (a := D) (xs := ws) (fun i Hj => Same H Hj ∧ ∃ acc, Hj E1 = some (.lst acc) ∧ acc.length = cntQ (ps.take i) x) ⟨AT.Same.up gE, [], upd_same, rfl⟩ (fun i Hj _ h => SqL.of (h.1 _ _ hD)) (fun i z Hj hz hP => ?_) (fun H3 hP => ?_)
    · obtain ⟨q, eq, t, x1, y1, rfl, ht, hx1, hy1⟩ := hp.at hz
      obtain ⟨sj, acc, hacc, hcnt⟩ := hP
      have st : cntQ (ps.take (i + 1)) x = cntQ (ps.take i) x + (if q.1 ≤ x then 1 else 0) := by
        unfold cntQ
        rw [List.take_succ, eq, List.filter_append]
        by_cases c : q.1 ≤ x <;> simp [c]
      have hle : cntQ (ps.take i) x ≤ i := by
        unfold cntQ
        exact Nat.le_trans (List.length_filter_le _ _) (by rw [List.length_take]; omega)
      have hi : i < ws.length := (List.getElem?_eq_some_iff.mp hz).1
      refine ⟨rfl, ?_⟩
      refine ⟨_, rfl, _, rfl, t, _, 0, _, rfl, rfl, SqT.of (sj _ _ ht), rfl, v, x1, x, q.1, rfl, hv.up sj, hx1.up sj, up bx (by decide), up (hbits q (List.mem_of_getElem? eq)).1 (by decide), _, rfl, ?_⟩
      by_cases c : q.1 ≤ x
      · rw [show decide (x < q.1) = false from decide_eq_false (by grind)]
        rw [if_pos c] at st
        exact iteT ⟨_, rfl, acc, hacc, (by omega), AT.Same.new sj gE, _, upd_same, by rw [List.length_append, hcnt, st]; rfl⟩
      · rw [show decide (x < q.1) = true from decide_eq_true (by grind)]
        rw [if_neg c] at st
        exact iteF ⟨sj, acc, hacc, by rw [hcnt, st]; rfl⟩
    obtain ⟨s3, acc, hacc, hcnt⟩ := hP
    rw [hl, List.take_length] at hcnt
    refine ⟨E1, acc, rfl, .inl (SqL.of hacc), ?_⟩
    refine ⟨_, rfl, D, ws, ps, rfl, hL.up s3, hF, fun S ss H4 s4 hSn hS hq => ?_⟩
    have pa : (steepQ ps)[cntQ ps x]? = some (PL.paceR 1 ps x) := by
      by_cases c : ps = []
      · subst c; exact pace_empty x
      · exact pace_at hris c x
    obtain ⟨u, hu, pu⟩ := hq.get pa
    exact ⟨_, rfl, S, ss, _, _, rfl, rfl, SqL.of hS, (by rw [hcnt]; exact atI_nat hu), k u H4 (s3.trans s4) pu⟩
end
end K09

set_option maxHeartbeats 4000000
namespace K09
open PySem PySem.Spec PyProof.Rows L2 AT
section
variable {P : Program} {w : World} {K : PySem.W.Frag} {mg : Str → Option Value} {base : Heap}
theorem lst_f {H : Hp} {D : Addr} {ws : List V} {ps : List (Rat × Rat)} (h : Lst H D ws ps) : Lst H D ws (ps.map (sw1 false)) := by
  rw [show ps.map (sw1 false) = ps from List.map_id' ps]
  exact h
theorem lst_t {H : Hp} {D : Addr} {ws : List V} {ps : List (Rat × Rat)} (h : Lst H D ws ps) : Lst H D ws ((ps.map PL.swp).map (sw1 true)) := by
  rw [show (ps.map PL.swp).map (sw1 true) = ps from PL.swp_swp ps]
  exact h
theorem FinL.swp {ps : List (Rat × Rat)} (h : FinL ps) : FinL (ps.map PL.swp) := by
  obtain ⟨h1, h2, h3⟩ := h
  refine ⟨rising_of (PL.ris_swp (ris_of h1)), fun p hp => ?_, by rw [List.length_map]; exact h3⟩
  obtain ⟨q, hq, rfl⟩ := List.mem_map.mp hp
  exact ⟨(h2 q hq).2, (h2 q hq).1⟩
/-- the places of two maps, one behind the other -/
def allB (ps qs : List (Rat × Rat)) : List Rat := ps.map (·.1) ++ qs.map fun q => PL.ledR (ps.map PL.swp) q.1
def ChW (H : Hp) (D1 D2 F : Addr) (h : Rat → Rat) (B : List Rat) (m : Nat) (σ' : L2.St) (H' : Hp) : Prop := ∃ (o2 o6 : Option V) (Bl : Addr) (bv : List V) (bl : List Rat) (us : List V) (fs : List Rat), σ' = ([some (.ref D1), some (.ref D2), o2, none, some (.ref Bl), some (.ref F), o6] : L2.St) ∧ Same H H' ∧ Bl ≠ F ∧ H' Bl = some (.lst bv) ∧ PQs H' bv bl ∧ H' F = some (.lst us) ∧ LPs H' us (PL.pts h fs) ∧ PL.Tk B fs bl ∧ fs.length + bl.length ≤ 200 ∧ m = bl.length
def spChn : Sp := fun vs H Q _ => ∃ D1 ws1 ps D2 ws2 qs, vs = [.ref D1, .ref D2] ∧ Lst H D1 ws1 ps ∧ FinL ps ∧ Lst H D2 ws2 qs ∧ FinL qs ∧ (∀ x ∈ allB ps qs, Bits 400 x ∧ Bits 400 (PL.ledR ps x)) ∧
  ∀ F us H', Same H H' → H F = none → Lst H' F us (PL.pts (fun x => PL.ledR qs (PL.ledR ps x)) (places ps qs)) → Q (.ref F) H'
theorem sc_w_chained : FnScope ["_law_one", "_law_other", "_law_beat", "_law_second", "_law_beats", "_law_found", "_law_lowest"] ["_law_one", "_law_other"] (defScope s_w_chained) := ⟨rfl, rfl, rfl, by decide +kernel, rfl, by decide +kernel, by decide +kernel⟩
theorem ok_w_chained (T : Tx K mg base) : Ok P w K mg base 7 (d_w_chained.loc K) ["_law_one", "_law_other"] spChn := by
  refine mk_ok (k := 6) T.f_w_chained sc_w_chained (fun _ _ _ _ _ _ us hl => match us, hl with | [_, _], _ => rfl) (fun vs H Q E h => ?_) (fun cdv A outer s H vs Q E hr h => ?_)
  · obtain ⟨D1, ws1, ps, D2, ws2, qs, rfl, _⟩ := h
    rfl
  · obtain ⟨D1, ws1, ps, D2, ws2, qs, rfl, hL1, hF1, hL2, hF2, hbits, k⟩ := h
    refine ⟨_, (pss_cons (ps_set (i := 4) sc_w_chained.nd rfl (Or.inl rfl) (pe_op op_cat (pe_lc (own := [("_law_beat", 2), ("_law_second", 3)]) (g := (gTup K 2 (gCons (gName 2) (gCons (gName 3) gNil)))) (tt := tYes) (by rfl) sc_w_chained.nd (pi_list (pv 0)) (blkOk_by (own := [("_law_beat", 2), ("_law_second", 3)]) (N := ["_law_one", "_law_other", "_law_beat", "_law_second", "_law_beats", "_law_found", "_law_lowest"]) (sc := defScope s_w_chained) (by decide +kernel)) (fun _ _ _ _ _ => (pg_tup rfl (pgs_cons (pg_name (i := 2) sc_w_chained.nd rfl (Or.inl rfl)) (pgs_cons (pg_name (i := 3) sc_w_chained.nd rfl (Or.inl rfl)) pgs_nil)))) (fun _ _ _ _ _ => pts_nil) (fun _ _ _ _ _ => (pv 2))) (pe_lc (own := [("_law_beat", 2), ("_law_second", 3)]) (g := (gTup K 2 (gCons (gName 2) (gCons (gName 3) gNil)))) (tt := tYes) (by rfl) sc_w_chained.nd (pi_list (pv 1)) (blkOk_by (own := [("_law_beat", 2), ("_law_second", 3)]) (N := ["_law_one", "_law_other", "_law_beat", "_law_second", "_law_beats", "_law_found", "_law_lowest"]) (sc := defScope s_w_chained) (by decide +kernel)) (fun _ _ _ _ _ => (pg_tup rfl (pgs_cons (pg_name (i := 2) sc_w_chained.nd rfl (Or.inl rfl)) (pgs_cons (pg_name (i := 3) sc_w_chained.nd rfl (Or.inl rfl)) pgs_nil)))) (fun _ _ _ _ _ => pts_nil) (fun _ _ _ _ _ => (ok_call (okB_w_led T) (hr.mono (by decide)) rfl T.g_w_led passL (pa_cons (pv 0) (pa_cons (pv 2) (pa_cons pe_int (pa_cons pe_int pa_nil)))))))))
      (pss_cons (ps_set (i := 5) sc_w_chained.nd rfl (Or.inl rfl) (pe_lst pa_nil))
      (pss_cons (ps_while (passes_of rfl) (pt_cmpR (show OpR _ _ (rNeE K) from op_neE hr.units) (pv 4) (pe_lst pa_nil) (nomark _)) (pss_cons (ps_set (i := 6) sc_w_chained.nd rfl (Or.inr rfl) (pe_ix ix_list (pv 4) pe_int (fun _ _ => rfl)))
      (pss_cons (ps_for (passes_of rfl) rfl (pi_list (pv 4)) (pg_name (i := 2) sc_w_chained.nd rfl (Or.inl rfl)) (pss_one (ps_set (i := 6) sc_w_chained.nd rfl (Or.inr rfl) (pe_ifExp (pt_val (ok_call (ok_w_less T) (hr.mono (by decide)) rfl T.g_w_less passL (pa_cons (pv 2) (pa_cons (pv 6) pa_nil)))) (pv 2) (pv 6)))))
      (pss_cons (ps_setLc (i := 4) (own := [("_law_beat", 2)]) (g := (gName 2)) (by rfl) sc_w_chained.nd rfl rfl (sw_true rfl rfl rfl (by decide +kernel)) (pi_list (pv 4)) (blkOk_by (own := [("_law_beat", 2)]) (N := ["_law_one", "_law_other", "_law_beat", "_law_second", "_law_beats", "_law_found", "_law_lowest"]) (sc := defScope s_w_chained) (by decide +kernel)) (fun _ _ _ _ _ => (pg_name (i := 2) sc_w_chained.nd rfl (Or.inl rfl))) (fun _ _ _ _ _ => (pts_one (pt_cmpR (show OpR _ _ (rNeD K) from (op_neD hr.units)) (pv 2) (pv 6) (nomark _)))) (fun _ _ _ _ _ => (pv 2)))
      (pss_one (ps_expr (pe_bm PySem.F.plainAttrs_list PySem.F.slot_list_append PySem.F.type_list_append mt_append (pv 5) (pa_cons (pe_tup (pa_cons (pv 6) (pa_cons (ok_call (okB_w_led T) (hr.mono (by decide)) rfl T.g_w_led passL (pa_cons (pv 1) (pa_cons (ok_call (okB_w_led T) (hr.mono (by decide)) rfl T.g_w_led passL (pa_cons (pv 0) (pa_cons (pv 6) (pa_cons pe_int (pa_cons pe_int pa_nil))))) (pa_cons pe_int (pa_cons pe_int pa_nil))))) pa_nil))) pa_nil))))))))
      (pss_one (ps_ret (pv 5)))))), ?_⟩
    obtain ⟨hD1, hp1⟩ := id hL1
    obtain ⟨hD2, hp2⟩ := id hL2
    have hl1 := hp1.length
    have hl2 := hp2.length
    have hsz : sizeLine = 16777216 := sizeLine_eq
    have n1 := hF1.2.2
    have n2 := hF2.2.2
    have up : ∀ {q : Rat} {m k : Nat}, Bits m q → m ≤ k → Bits k q := fun h l => h.mono l
    refine ⟨_, rfl, D1, rfl, ⟨_, SqL.of hD1⟩, fun E1 gE => ?_⟩
    refine lc_list (K := K) (a := D1) (xs := ws1) (fun j Hj => Same H Hj ∧ ∃ acc, Hj E1 = some (.lst acc) ∧ PQs Hj acc ((ps.take j).map (·.1))) ⟨AT.Same.up gE, [], upd_same, .nil⟩ (fun j Hj _ h => SqL.of (h.1 _ _ hD1)) (fun j x Hj hx hP => ?_) (fun HA hP => ?_)
    · obtain ⟨q, eq, t, x1, y1, rfl, ht, hx1, hy1⟩ := hp1.at hx
      obtain ⟨sj, acc, hacc, hlp⟩ := hP
      refine ⟨t, _, rfl, SqT.of (sj _ _ ht), rfl, _, _, rfl, _, _, rfl, rfl, rfl, ?_⟩
      dsimp only [tYes]
      have lu := hlp.length
      rw [List.length_map, List.length_take] at lu
      refine iteT ⟨_, rfl, acc, hacc, (by omega), AT.Same.new sj gE, acc ++ [x1], upd_same, ?_⟩
      rw [List.take_add_one, eq, List.map_append]
      exact (hlp.app (.cons (hx1.up sj) .nil)).upT (sameT_set hacc)
    obtain ⟨sA, fs, hE1, hfs⟩ := hP
    rw [hl1, List.take_length] at hfs
    have lfs := hfs.length
    rw [List.length_map] at lfs
    refine ⟨_, rfl, D2, rfl, ⟨_, SqL.of (sA _ _ hD2)⟩, fun E2 gE2 => ?_⟩
    refine lc_list (K := K) (a := D2) (xs := ws2) (fun j Hj => Same HA Hj ∧ ∃ acc, Hj E2 = some (.lst acc) ∧ PQs Hj acc ((qs.take j).map fun q => PL.ledR (ps.map PL.swp) q.1)) ⟨AT.Same.up gE2, [], upd_same, .nil⟩ (fun j Hj _ h => SqL.of (h.1 _ _ (sA _ _ hD2))) (fun j x Hj hx hP => ?_) (fun HB hP => ?_)
    · obtain ⟨q, eq, t, x1, y1, rfl, ht, hx1, hy1⟩ := hp2.at hx
      obtain ⟨sj, acc, hacc, hlp⟩ := hP
      have sHj := sA.trans sj
      refine ⟨t, _, rfl, SqT.of (sHj _ _ ht), rfl, _, _, rfl, _, _, rfl, rfl, rfl, ?_⟩
      dsimp only [tYes]
      have lu := hlp.length
      rw [List.length_map, List.length_take] at lu
      refine iteT ⟨_, rfl, _, rfl, D1, ws1, ps.map PL.swp, x1, q.1, true, rfl, lst_t (hL1.up sHj), hF1.swp, hx1.up sHj, (hF2.2.1 q (List.mem_of_getElem? eq)).1, fun u H4 s4 hu4 => ?_⟩
      refine ⟨acc, s4 _ _ hacc, (by omega), AT.Same.new (sj.trans s4) gE2, acc ++ [u], upd_same, ?_⟩
      rw [List.take_add_one, eq, List.map_append]
      exact ((hlp.up s4).app (.cons hu4 .nil)).upT (sameT_set (s4 _ _ hacc))
    obtain ⟨sB, gs, hE2, hgs⟩ := hP
    rw [hl2, List.take_length] at hgs
    have lgs := hgs.length
    rw [List.length_map] at lgs
    have sAB := sA.trans sB
    refine ⟨E1, E2, fs, gs, rfl, rfl, sB _ _ hE1, hE2, (by omega), fun B0 gB0 => ?_⟩
    have sU := AT.Same.up (o := .lst (fs ++ gs)) gB0
    have qAll := ((hfs.up sB).app hgs).up sU
    refine ⟨Nat.zero_le _, fun F gF => ?_⟩
    have sF := AT.Same.up (o := .lst []) gF
    have sHF : Same H _ := (sAB.trans sU).trans sF
    have hFn : H F = none := none_of (sAB.trans sU) gF
    have nBF : B0 ≠ F := by rintro rfl; rw [upd_same] at gF; cases gF
    have eB : ps.map (·.1) ++ qs.map (fun q => PL.ledR (ps.map PL.swp) q.1) = allB ps qs := rfl
    rw [eB] at qAll
    have lAll : (allB ps qs).length ≤ 200 := by unfold allB; rw [List.length_append, List.length_map, List.length_map]; omega
    refine ⟨ChW H D1 D2 F (fun x => PL.ledR qs (PL.ledR ps x)) (allB ps qs), ⟨_, _, _, B0, _, allB ps qs, [], [], rfl, sHF, nBF, sF _ _ upd_same, qAll.up sF, upd_same, .nil, PL.Tk.start _, (by simpa using lAll), rfl⟩, ?_⟩
    rintro m σ1 H1 ⟨o2, o6, Bl, bv, bl, us, fs, rfl, s1, hBF, hBl, hbl, hF, hlp, htk, hcnt, rfl⟩
    have lbl := hbl.length
    refine ⟨_, rfl, Nat.zero_le _, fun z gz => ?_⟩
    have sz := AT.Same.up (o := .lst []) gz
    refine ⟨bv, ⟨Bl, z, rfl, rfl, SqL.of (sz _ _ hBl), SqL.of upd_same⟩, _, rfl, ?_⟩
    have sH2 := s1.trans sz
    have hBl2 := sz _ _ hBl
    have hF2' := sz _ _ hF
    have hbl2 := hbl.up sz
    have hlp2 := hlp.up sz
    have hzF : z ≠ F := by rintro rfl; rw [gz] at hF; cases hF
    generalize upd H1 z (.lst []) = H2 at sz sH2 hBl2 hF2' hbl2 hlp2 ⊢
    cases hw : bv.isEmpty with
    | true =>
      have e0 : bv = [] := by simpa using hw
      have e1 : bl = [] := List.length_eq_zero_iff.mp (by rw [← lbl, e0]; rfl)
      subst e1
      rw [htk.done] at hlp2
      exact iteF ⟨_, rfl, k F us H2 sH2 hFn ⟨hF2', hlp2⟩⟩
    | false =>
      have hne : bl ≠ [] := by rintro rfl; rw [List.length_nil] at lbl; rw [List.length_eq_zero_iff.mp lbl] at hw; cases hw
      refine iteT ⟨fun σ' H' => ∃ m', m' < bl.length ∧ ChW H D1 D2 F (fun x => PL.ledR qs (PL.ledR ps x)) (allB ps qs) m' σ' H', fun _ _ z => z, ?_⟩
      have hb0 : bl[0]? = some (bl.head hne) := by cases bl with | nil => exact absurd rfl hne | cons a r => rfl
      obtain ⟨v0, ev0, pv0⟩ := hbl2.get hb0
      have hinB : ∀ x ∈ bl, x ∈ allB ps qs := fun x hx => (htk.2.2 x).mp (.inr hx)
      refine ⟨_, rfl, Bl, _, 0, _, rfl, rfl, SqL.of hBl2, atI_nat (j := 0) ev0, ?_⟩
      refine ⟨_, rfl, Bl, rfl, ⟨_, SqL.of hBl2⟩, for_list (xs := bv) (fun j σ' H' => ∃ (o2 : Option V) (lv : V) (low : Rat), σ' = ([some (.ref D1), some (.ref D2), o2, none, some (.ref Bl), some (.ref F), some lv] : L2.St) ∧ H2 = H' ∧ PQ H2 lv low ∧ low ∈ bl ∧ ∀ x ∈ bl.take j, low ≤ x) ⟨_, v0, bl.head hne, rfl, rfl, pv0, List.head_mem hne, (fun x hx => by simp at hx)⟩ (fun j σ' H' _ hP => ?_) (fun j y σ' H' hy hP => ?_) (fun σ' H' hP => ?_)⟩
      · obtain ⟨o2, lv, low, rfl, rfl, _⟩ := hP
        exact SqL.of hBl2
      · obtain ⟨o2, lv, low, rfl, rfl, hlow, hmem, hle⟩ := hP
        obtain ⟨x, ex, hx⟩ := hbl2.at hy
        have bx := (hbits x (hinB x (List.mem_of_getElem? ex))).1
        have blw := (hbits low (hinB low hmem)).1
        refine ⟨_, rfl, _, rfl, y, lv, x, low, rfl, hx, hlow, up bx (by decide), up blw (by decide), _, rfl, ?_⟩
        have tk : ∀ w, w ∈ bl.take (j + 1) → w ∈ bl.take j ∨ w = x := by
          intro w hw
          rw [List.take_add_one, ex] at hw
          rcases List.mem_append.mp hw with h | h
          · exact .inl h
          · exact .inr (by simpa using h)
        by_cases c : x < low
        · rw [decide_eq_true c]
          refine iteT ⟨_, rfl, _, y, x, rfl, rfl, hx, List.mem_of_getElem? ex, fun w hw => ?_⟩
          rcases tk w hw with h | rfl
          · have := hle w h
            grind
          · grind
        · rw [decide_eq_false c]
          refine iteF ⟨_, rfl, _, lv, low, rfl, rfl, hlow, hmem, fun w hw => ?_⟩
          rcases tk w hw with h | rfl
          · exact hle w h
          · grind
      · obtain ⟨o2, lv, low, rfl, rfl, hlow, hmem, hle⟩ := hP
        rw [lbl, List.take_length] at hle
        refine ⟨_, rfl, Bl, rfl, ⟨_, SqL.of hBl2⟩, fun B2 gB2 => ?_⟩
        have nB2F : B2 ≠ F := by rintro rfl; rw [hF2'] at gB2; cases gB2
        refine lc_list (K := K) (a := Bl) (xs := bv) (fun j Hj => Same H2 Hj ∧ ∃ acc, Hj B2 = some (.lst acc) ∧ PQs Hj acc ((bl.take j).filter fun x => decide (x ≠ low))) ⟨AT.Same.up gB2, [], upd_same, .nil⟩ (fun j Hj _ h => SqL.of (h.1 _ _ hBl2)) (fun j y Hj hy hP => ?_) (fun HC hP => ?_)
        · obtain ⟨sj, acc, hacc, hq⟩ := hP
          obtain ⟨x, ex, hx⟩ := hbl2.at hy
          have lu := hq.length
          have lf : ((bl.take j).filter fun x => decide (x ≠ low)).length ≤ j := Nat.le_trans (List.length_filter_le _ _) (by rw [List.length_take]; omega)
          have hj : j < bv.length := (List.getElem?_eq_some_iff.mp hy).1
          refine ⟨rfl, ?_⟩
          refine ⟨_, rfl, _, rfl, dq x, dq low, (hx.up sj).dp, (hlow.up sj).dp, rfl, rfl, _, rfl, ?_⟩
          rw [eqv_dq]
          by_cases c : x = low
          · rw [decide_eq_true c]
            refine iteF ⟨sj, acc, hacc, ?_⟩
            rw [List.take_add_one, ex, List.filter_append]
            simpa [c] using hq
          · rw [decide_eq_false c]
            refine iteT ⟨_, rfl, acc, hacc, (by omega), AT.Same.new sj gB2, acc ++ [y], upd_same, ?_⟩
            rw [List.take_add_one, ex, List.filter_append]
            have := (hq.app (.cons (hx.up sj) .nil)).upT (sameT_set (zs := acc ++ [y]) hacc)
            simpa [c] using this
        obtain ⟨sC, acc, hacc, hq⟩ := hP
        rw [lbl, List.take_length] at hq
        obtain ⟨st1, st2⟩ := htk.step hmem hle
        have sHC := sH2.trans sC
        obtain ⟨b1, b2⟩ := hbits low (hinB low hmem)
        have hFC := sC _ _ hF2'
        have lus := hlp2.length
        unfold PL.pts at lus
        rw [List.length_map] at lus
        refine ⟨_, rfl, tyV_lst hFC, _, rfl, _, rfl, _, rfl, _, rfl, D1, ws1, ps, lv, low, false, rfl, lst_f (hL1.up sHC), hF1, hlow.up sC, b1, fun u1 H4 s4 hu1 => ?_⟩
        refine ⟨D2, ws2, qs, u1, _, false, rfl, lst_f (hL2.up (sHC.trans s4)), hF2, hu1, b2, fun u2 H5 s5 hu2 => ?_⟩
        refine ⟨(by show 2 ≤ sizeLine; decide), fun t gt => ?_⟩
        have sT := AT.Same.up (o := .tup [lv, u2]) gt
        have s6 := (s4.trans s5).trans sT
        have hF6 := s6 _ _ hFC
        refine ⟨F, us, _, rfl, rfl, hF6, (by omega), ?_⟩
        have hB6 := s6 _ _ hacc
        have sset := sameT_set (zs := us ++ [.ref t]) hF6
        refine ⟨_, st2, _, _, B2, acc, _, us ++ [.ref t], fs ++ [low], rfl, AT.Same.new (sHC.trans s6) hFn, nB2F, (by rw [upd_ne nB2F]; exact hB6), (hq.up s6).upT sset, upd_same, ?_, st1, ?_, rfl⟩
        · have := ((hlp2.up (sC.trans s6)).app (p := (low, PL.ledR qs (PL.ledR ps low))) ⟨t, lv, u2, rfl, upd_same, hlow.up (sC.trans s6), hu2.up sT⟩).upT sset
          unfold PL.pts at this ⊢
          rw [List.map_append]
          exact this
        · rw [List.length_append]
          have : [low].length = 1 := rfl
          omega
end
end K09

set_option maxHeartbeats 4000000
namespace K09
open PySem PySem.Spec PyProof.Rows L2 AT
/-- odd things and the data that they are -/
inductive Th (H : Hp) : V → PyData → Prop
  | non : Th H .non .none
  | tru : Th H (.bl true) (.bool true)
  | fal : Th H (.bl false) (.bool false)
  | z0 : Th H (.int 0) (.int 0)
  | s1 : Th H (.str "1") (.str "1")
  | s0 : Th H (.str "") (.str "")
  | sm : Th H (.str "map") (.str "map")
  | nil {a : Addr} : H a = some (.lst []) → Th H (.ref a) (.list [])
  | one {a : Addr} : H a = some (.lst [.int 1]) → Th H (.ref a) (.list [.int 1])
  | emp {a : Addr} : H a = some (.dK []) → Th H (.ref a) (.dict [])
  | two {a : Addr} : H a = some (.tup [.int 1, .int 2]) → Th H (.ref a) (.tuple [.int 1, .int 2])
  | pts {a b : Addr} : H a = some (.lst [.ref b]) → H b = some (.tup [.int 0, .int 0]) → Th H (.ref a) (.list [.tuple [.int 0, .int 0]])
section
variable {K : PySem.W.Frag} {H H' : Hp} {v : V} {d : PyData}
theorem Th.up (h : Th H v d) (s : Same H H') : Th H' v d := by
  cases h with
  | non => exact .non
  | tru => exact .tru
  | fal => exact .fal
  | z0 => exact .z0
  | s1 => exact .s1
  | s0 => exact .s0
  | sm => exact .sm
  | nil e => exact .nil (s _ _ e)
  | one e => exact .one (s _ _ e)
  | emp e => exact .emp (s _ _ e)
  | two e => exact .two (s _ _ e)
  | pts e e2 => exact .pts (s _ _ e) (s _ _ e2)
theorem Th.any (h : Th H v d) : AnyV K H v := by
  cases h with
  | non => exact .non
  | tru => exact .bl _
  | fal => exact .bl _
  | z0 => exact .int _
  | s1 => exact .str _
  | s0 => exact .str _
  | sm => exact .str _
  | nil e => exact .lst e
  | one e => exact .lst e
  | emp e => exact .dct e
  | two e => exact .tup e
  | pts e e2 => exact .lst e
theorem Th.noA (h : Th H v d) (hw : wholeV v = false) : ¬ isA K H v := by
  rintro ⟨q, z⟩
  cases h with
  | z0 => cases hw
  | nil e => cases z with | obj z => obtain ⟨_, z⟩ := z; rw [e] at z; cases z
  | one e => cases z with | obj z => obtain ⟨_, z⟩ := z; rw [e] at z; cases z
  | emp e => cases z with | obj z => obtain ⟨_, z⟩ := z; rw [e] at z; cases z
  | two e => cases z with | obj z => obtain ⟨_, z⟩ := z; rw [e] at z; cases z
  | pts e e2 => cases z with | obj z => obtain ⟨_, z⟩ := z; rw [e] at z; cases z
  | _ => cases z
theorem Th.noM (h : Th H v d) : NoM K H v := by
  refine ⟨h.any, fun a C dx fs e z => ?_⟩
  cases h with
  | nil e2 => cases e; rw [e2] at z; cases z
  | one e2 => cases e; rw [e2] at z; cases z
  | emp e2 => cases e; rw [e2] at z; cases z
  | two e2 => cases e; rw [e2] at z; cases z
  | pts e2 e3 => cases e; rw [e2] at z; cases z
  | _ => cases e
theorem Th.dd (h : Th H v d) : Dd K H v d := by
  cases h with
  | non => exact .non
  | tru => exact .bl _
  | fal => exact .bl _
  | z0 => exact .int _
  | s1 => exact .str _
  | s0 => exact .str _
  | sm => exact .str _
  | nil e => exact .lst (SqL.of e) .nil
  | one e => exact .lst (SqL.of e) (.cons (.int _) .nil)
  | emp e => exact .emp e
  | two e => exact .tup (SqT.of e) (.cons (.int _) (.cons (.int _) .nil))
  | pts e e2 => exact .lst (SqL.of e) (.cons (.tup (SqT.of e2) (.cons (.int _) (.cons (.int _) .nil))) .nil)
def ShOk (d : PyData) : Prop := d.showable = true ∧ d.depth ≤ 50 ∧ d.shown.length ≤ sizeLine
theorem Th.shA (h : Th H v d) : ShOk (.list [.str "amount", d]) := by cases h <;> exact ⟨by decide +kernel, by decide +kernel, by decide +kernel⟩
theorem Th.shM (h : Th H v d) : ShOk (.list [.str "map", d]) := by cases h <;> exact ⟨by decide +kernel, by decide +kernel, by decide +kernel⟩
end
section
variable {P : Program} {w : World} {K : PySem.W.Frag} {mg : Str → Option Value} {base : Heap}
theorem oth_map (T : Tx K mg base) : OthC K (cM K) where
  ty := fun e => T.ins_TempoMap e
  int := T.k_TempoMap_int
  bool := T.k_TempoMap_bool
  lst := T.k_TempoMap_list
  tup := T.k_TempoMap_tuple
  amt := T.k_TempoMap_Amount
  ne := fun z => by
    have h1 : PySem.W.kitOne K (.ref (cM K)) (.ref (cA K)) = some false := T.k_TempoMap_Amount
    have h2 : PySem.W.kitOne K (.ref (cA K)) (.ref (cA K)) = some true := T.k_Amount_Amount
    rw [z, h2] at h1
    cases h1
def CPA (K : PySem.W.Frag) : Cmp := fun x y H b => CPair x y H b ∨ CIns (cA K) (QEq K) x y H b
theorem eqB_pa {X : Cx} (T : Tx X.K X.mg X.base) : EqB X 2 (CPA X.K) := EqB.or (eqB_pair.mono (by decide)) (eqB_amt T)
theorem noM_q {H : Hp} {x : Addr} {q : Rat} (h : IsQ K H x q) : NoM K H (.ref x) := by
  refine ⟨.amt h, fun a C dx fs e z => ?_⟩
  cases e
  obtain ⟨_, h⟩ := h
  rw [h] at z
  cases z
  rfl
def spOdd (K : PySem.W.Frag) : Sp := fun vs H Q _ => ∃ m bs, vs = [.ref m] ∧ IsMap K H m bs ∧ FineM bs ∧ ∀ H', Same H H' → Q (.bl true) H'
theorem sc_w_odd_right : FnScope ["_law_tempo", "_law_odd", "_law_door"] ["_law_tempo"] (defScope s_w_odd_right) := ⟨rfl, rfl, rfl, by decide +kernel, rfl, by decide +kernel, by decide +kernel⟩
theorem ok_w_odd_right (T : Tx K mg base) : OkG P w K mg base 19 (d_w_odd_right.loc K) ["_law_tempo"] (spOdd K) := by
  refine mk_okG (k := 18) T.f_w_odd_right sc_w_odd_right (fun _ _ _ _ _ _ us hl => match us, hl with | [_], _ => rfl) (fun vs H Q E h => ?_) (fun cdv A outer s H vs Q E hgd hr h => ?_)
  · obtain ⟨m, bs, rfl, _⟩ := h
    rfl
  · obtain ⟨m, bs, rfl, im, hf, k⟩ := h
    refine ⟨_, (Evl.pss_cut (ps_if (PW.pt (pw_or (pt_cmpR (op_neB eqB_pair (hr.mono (by decide))) (ok_call (ok_w_caught T) (hr.mono (by decide)) rfl T.g_w_caught passL (pa_cons pe_int (pa_cons (pv 0) (pa_cons (pv 0) pa_nil)))) (pe_lst (pa_cons pe_str (pa_cons (pv 0) pa_nil))) (nomark _)) (pw_or1 (pt_cmpR (op_neB (eqB_pa T) (hr.mono (by decide))) (ok_call (ok_w_caught T) (hr.mono (by decide)) rfl T.g_w_caught passL (pa_cons pe_int (pa_cons (pv 0) (pa_cons (ok_makeD T.mkr_Amount (okd_Amount_init_ T) (hr.mono (by decide)) rfl T.g_Amount (passE rfl rfl rfl rfl) (pa_cons pe_int pa_nil)) pa_nil)))) (pe_lst (pa_cons pe_str (pa_cons (ok_makeD T.mkr_Amount (okd_Amount_init_ T) (hr.mono (by decide)) rfl T.g_Amount (passE rfl rfl rfl rfl) (pa_cons pe_int pa_nil)) pa_nil))) (nomark _))))) (pss_one (ps_ret pe_bl)) pss_nil)
      (pss_cons (ps_for (passes_of rfl) rfl (pi_list (pe_lst (pa_cons pe_non (pa_cons pe_bl (pa_cons pe_bl (pa_cons pe_str (pa_cons pe_str (pa_cons (pe_lst pa_nil) (pa_cons pe_dnewK (pa_cons (pe_tup (pa_cons pe_int (pa_cons pe_int pa_nil))) (pa_cons (pe_lst (pa_cons pe_int pa_nil)) pa_nil))))))))))) (pg_name (i := 1) sc_w_odd_right.nd rfl (Or.inl rfl)) (pss_one (ps_for (passes_of rfl) rfl (pi_range1 (by rfl) T.b_range (pa_cons pe_int pa_nil)) (pg_name (i := 2) sc_w_odd_right.nd rfl (Or.inl rfl)) (pss_one (ps_if (pt_cmpR op_ne (pe_callB (call_repr hgd hr T.sys) (by rfl) T.b_repr (by decide +kernel) (pa_cons (ok_call (ok_w_caught T) (hr.mono (by decide)) rfl T.g_w_caught passL (pa_cons (pv 2) (pa_cons (pv 0) (pa_cons (pv 1) pa_nil)))) pa_nil)) (pe_callB (call_repr hgd hr T.sys) (by rfl) T.b_repr (by decide +kernel) (pa_cons (pe_lst (pa_cons pe_str (pa_cons (pv 1) pa_nil))) pa_nil)) (nomark _)) (pss_one (ps_ret pe_bl)) pss_nil)))))
      (pss_cons (ps_for (passes_of rfl) rfl (pi_list (pe_lst (pa_cons pe_non (pa_cons pe_bl (pa_cons pe_int (pa_cons pe_str (pa_cons (pe_lst pa_nil) (pa_cons pe_dnewK (pa_cons (pe_lst (pa_cons (pe_tup (pa_cons pe_int (pa_cons pe_int pa_nil))) pa_nil)) pa_nil))))))))) (pg_name (i := 1) sc_w_odd_right.nd rfl (Or.inl rfl)) (pss_one (ps_if (pt_cmpR op_ne (pe_callB (call_repr hgd hr T.sys) (by rfl) T.b_repr (by decide +kernel) (pa_cons (ok_call (ok_w_caught T) (hr.mono (by decide)) rfl T.g_w_caught passL (pa_cons pe_int (pa_cons (pv 0) (pa_cons (pv 1) pa_nil)))) pa_nil)) (pe_callB (call_repr hgd hr T.sys) (by rfl) T.b_repr (by decide +kernel) (pa_cons (pe_lst (pa_cons pe_str (pa_cons (pv 1) pa_nil))) pa_nil)) (nomark _)) (pss_one (ps_ret pe_bl)) pss_nil)))
      (pss_one (ps_ret pe_bl))))), ?_⟩
    obtain ⟨dx, t, ws, h1, h2, h3⟩ := id im
    have anyM : AnyV K H (.ref m) := .oth (oth_map T) h1
    have noA : ¬ isA K H (.ref m) := by
      rintro ⟨q, z⟩
      cases z with
      | obj z =>
        obtain ⟨_, z⟩ := z
        rw [h1] at z
        have e : He.ga K "TempoMap" = cA K := by injection z with z; injection z
        exact (oth_map T).ne e
    refine ⟨fun σ' H' => σ' = ([some (.ref m), none, none] : L2.St) ∧ Same H H', ?_, ?_⟩
    rotate_left
    · rintro σ5 H5 ⟨rfl, s5⟩
      -- odd amounts
      refine ⟨Nat.zero_le _, fun a5 h5 => fun a6 h6 => ⟨(by show 2 ≤ sizeLine; decide), fun a7 h7 => ⟨(by show 1 ≤ sizeLine; decide), fun a8 h8 => ⟨(by show 9 ≤ sizeLine; decide), fun q hq => ?_⟩⟩⟩⟩
      have v0 : ∃ H0 : Hp, H0 = upd (upd (upd (upd (upd H5 a5 (.lst [])) a6 (.dK [])) a7 (.tup [.int 1, .int 2])) a8 (.lst [.int 1])) q (.lst [.non, .bl true, .bl false, .str "1", .str "", .ref a5, .ref a6, .ref a7, .ref a8]) := ⟨_, rfl⟩
      obtain ⟨H0, e0⟩ := v0
      have s0 : Same H5 H0 := by rw [e0]; exact ((((AT.Same.up h5).trans (AT.Same.up h6)).trans (AT.Same.up h7)).trans (AT.Same.up h8)).trans (AT.Same.up hq)
      have w5 : H0 a5 = some (.lst []) := by rw [e0]; exact AT.Same.up hq _ _ (AT.Same.up h8 _ _ (AT.Same.up h7 _ _ (AT.Same.up h6 _ _ upd_same)))
      have w6 : H0 a6 = some (.dK []) := by rw [e0]; exact AT.Same.up hq _ _ (AT.Same.up h8 _ _ (AT.Same.up h7 _ _ upd_same))
      have w7 : H0 a7 = some (.tup [.int 1, .int 2]) := by rw [e0]; exact AT.Same.up hq _ _ (AT.Same.up h8 _ _ upd_same)
      have w8 : H0 a8 = some (.lst [.int 1]) := by rw [e0]; exact AT.Same.up hq _ _ upd_same
      have wq : H0 q = some (.lst [.non, .bl true, .bl false, .str "1", .str "", .ref a5, .ref a6, .ref a7, .ref a8]) := by rw [e0]; exact upd_same
      rw [← e0]
      clear e0 hq h8 h7 h6 h5
      have s50 := s5.trans s0
      refine ⟨q, rfl, ⟨_, SqL.of wq⟩, for_list (xs := [.non, .bl true, .bl false, .str "1", .str "", .ref a5, .ref a6, .ref a7, .ref a8]) (fun i σ' H' => ∃ (o1 o2 : Option V), σ' = ([some (.ref m), o1, o2] : L2.St) ∧ Same H0 H') ⟨_, _, rfl, Same.refl _⟩ (fun i σ' H' _ h => SqL.of (h.choose_spec.choose_spec.2 _ _ wq)) ?_ ?_⟩
      · rintro i x σ' H' hx ⟨o1, o2, rfl, s6⟩
        obtain ⟨d, th, hw⟩ : ∃ d, Th H' x d ∧ wholeV x = false := by
          have hm := List.mem_of_getElem? hx
          simp only [List.mem_cons, List.not_mem_nil, or_false] at hm
          rcases hm with rfl | rfl | rfl | rfl | rfl | rfl | rfl | rfl | rfl
          · exact ⟨_, .non, rfl⟩
          · exact ⟨_, .tru, rfl⟩
          · exact ⟨_, .fal, rfl⟩
          · exact ⟨_, .s1, rfl⟩
          · exact ⟨_, .s0, rfl⟩
          · exact ⟨_, .nil (s6 _ _ w5), rfl⟩
          · exact ⟨_, .emp (s6 _ _ w6), rfl⟩
          · exact ⟨_, .two (s6 _ _ w7), rfl⟩
          · exact ⟨_, .one (s6 _ _ w8), rfl⟩
        have es := th.shA
        refine ⟨3, rfl, by decide, by decide, for_range (lo := 0) (n := 3) (fun j σ' Hj => ∃ (o2 : Option V), σ' = ([some (.ref m), some x, o2] : L2.St) ∧ Same H' Hj) ⟨_, rfl, Same.refl _⟩ ?_ ?_⟩
        · rintro j σ' Hj hj ⟨o2, rfl, s7⟩
          have th1 := th.up s7
          refine ⟨_, rfl, _, rfl, _, rfl, j, m, bs, x, "amount", (by rw [Int.zero_add]; rfl), im.up ((s50.trans s6).trans s7), hf, .inl ⟨by omega, th1.any, hw, th1.noA hw, rfl⟩, fun q1 H8 s8 g8 hq8 => ?_⟩
          have th2 := th1.up s8
          refine ⟨_, .list [.str "amount", d], rfl, .lst (SqL.of hq8) (.cons (.str _) (.cons th2.dd .nil)), es.1, es.2.1, es.2.2, ?_⟩
          refine ⟨_, rfl, (by show 2 ≤ sizeLine; decide), fun q9 hq9 => ?_⟩
          have s9 := AT.Same.up (o := .lst [.str "amount", x]) hq9
          refine ⟨_, .list [.str "amount", d], rfl, .lst (SqL.of upd_same) (.cons (.str _) (.cons (th2.up s9).dd .nil)), es.1, es.2.1, es.2.2, rfl, _, rfl, ?_⟩
          rw [decide_eq_true rfl]
          exact iteF ⟨_, rfl, (s7.trans s8).trans s9⟩
        · rintro σ' Hj ⟨o2, rfl, s7⟩
          exact ⟨_, _, rfl, s6.trans s7⟩
      rintro σ' H6 ⟨o1, o2, rfl, s6⟩
      have s56 := s50.trans s6
      clear w5 w6 w7 w8 wq
      -- odd maps
      refine ⟨Nat.zero_le _, fun a5 h5 => fun a6 h6 => ⟨(by show 2 ≤ sizeLine; decide), fun a7 h7 => ⟨(by show 1 ≤ sizeLine; decide), fun a8 h8 => ⟨(by show 7 ≤ sizeLine; decide), fun q hq => ?_⟩⟩⟩⟩
      have v0 : ∃ H0 : Hp, H0 = upd (upd (upd (upd (upd H6 a5 (.lst [])) a6 (.dK [])) a7 (.tup [.int 0, .int 0])) a8 (.lst [.ref a7])) q (.lst [.non, .bl true, .int 0, .str "map", .ref a5, .ref a6, .ref a8]) := ⟨_, rfl⟩
      obtain ⟨H0', e0⟩ := v0
      have s0' : Same H6 H0' := by rw [e0]; exact ((((AT.Same.up h5).trans (AT.Same.up h6)).trans (AT.Same.up h7)).trans (AT.Same.up h8)).trans (AT.Same.up hq)
      have w5 : H0' a5 = some (.lst []) := by rw [e0]; exact AT.Same.up hq _ _ (AT.Same.up h8 _ _ (AT.Same.up h7 _ _ (AT.Same.up h6 _ _ upd_same)))
      have w6 : H0' a6 = some (.dK []) := by rw [e0]; exact AT.Same.up hq _ _ (AT.Same.up h8 _ _ (AT.Same.up h7 _ _ upd_same))
      have w7 : H0' a7 = some (.tup [.int 0, .int 0]) := by rw [e0]; exact AT.Same.up hq _ _ (AT.Same.up h8 _ _ upd_same)
      have w8 : H0' a8 = some (.lst [.ref a7]) := by rw [e0]; exact AT.Same.up hq _ _ upd_same
      have wq : H0' q = some (.lst [.non, .bl true, .int 0, .str "map", .ref a5, .ref a6, .ref a8]) := by rw [e0]; exact upd_same
      rw [← e0]
      clear e0 hq h8 h7 h6 h5
      have s60 := s56.trans s0'
      refine ⟨q, rfl, ⟨_, SqL.of wq⟩, for_list (xs := [.non, .bl true, .int 0, .str "map", .ref a5, .ref a6, .ref a8]) (fun i σ' H' => ∃ (o1 : Option V), σ' = ([some (.ref m), o1, o2] : L2.St) ∧ Same H0' H') ⟨_, rfl, Same.refl _⟩ (fun i σ' H' _ h => SqL.of (h.choose_spec.2 _ _ wq)) ?_ ?_⟩
      · rintro i x σ' H' hx ⟨o1, rfl, s7⟩
        obtain ⟨d, th⟩ : ∃ d, Th H' x d := by
          have hm := List.mem_of_getElem? hx
          simp only [List.mem_cons, List.not_mem_nil, or_false] at hm
          rcases hm with rfl | rfl | rfl | rfl | rfl | rfl | rfl
          · exact ⟨_, .non⟩
          · exact ⟨_, .tru⟩
          · exact ⟨_, .z0⟩
          · exact ⟨_, .sm⟩
          · exact ⟨_, .nil (s7 _ _ w5)⟩
          · exact ⟨_, .emp (s7 _ _ w6)⟩
          · exact ⟨_, .pts (s7 _ _ w8) (s7 _ _ w7)⟩
        have es := th.shM
        refine ⟨_, rfl, _, rfl, 3, m, bs, x, "map", rfl, im.up (s60.trans s7), hf, .inr ⟨rfl, th.noM, rfl⟩, fun q1 H8 s8 g8 hq8 => ?_⟩
        have th2 := th.up s8
        refine ⟨_, .list [.str "map", d], rfl, .lst (SqL.of hq8) (.cons (.str _) (.cons th2.dd .nil)), es.1, es.2.1, es.2.2, ?_⟩
        refine ⟨_, rfl, (by show 2 ≤ sizeLine; decide), fun q9 hq9 => ?_⟩
        have s9 := AT.Same.up (o := .lst [.str "map", x]) hq9
        refine ⟨_, .list [.str "map", d], rfl, .lst (SqL.of upd_same) (.cons (.str _) (.cons (th2.up s9).dd .nil)), es.1, es.2.1, es.2.2, rfl, _, rfl, ?_⟩
        rw [decide_eq_true rfl]
        exact iteF ⟨_, rfl, (s7.trans s8).trans s9⟩
      · rintro σ' H7 ⟨o1, rfl, s7⟩
        exact k H7 (s60.trans s7)
    refine ⟨_, rfl, _, rfl, 0, m, bs, .ref m, "amount", rfl, im, hf, .inl ⟨by decide, anyM, rfl, noA, rfl⟩, fun q1 H1 s1 g1 hq1 => ?_⟩
    refine ⟨_, rfl, (by show 2 ≤ sizeLine; decide), fun q2 gq2 => ?_⟩
    have s2 := AT.Same.up (o := .lst [.str "amount", .ref m]) gq2
    refine ⟨q1, q2, _, _, rfl, rfl, s2 _ _ hq1, upd_same, rfl, (fun i x y e1 e2 => ?_), _, rfl, iteF ?_⟩
    · rw [e1] at e2
      cases e2
      match i, e1 with
      | 0, e1 => cases e1; exact .inr ⟨rfl, rfl, rfl⟩
      | 1, e1 => cases e1; exact .inl ⟨m, rfl, rfl, rfl⟩
      | i + 2, e1 => simp at e1
    have s12 := s1.trans s2
    generalize upd H1 q2 (.lst [.str "amount", .ref m]) = H2 at s12 ⊢
    refine ⟨_, rfl, fun x dx2 hx hdx hne => ⟨x, dx2, _, _, rfl, upd_same, .int _, .int _, .inl ⟨1, 1, rfl, rfl, by decide, by decide +kernel, rfl, ?_⟩⟩⟩
    have sA := made_same (o1 := .ins (cA K) dx2 []) (o2 := .ins (cA K) dx2 (amtQ (Rat.divInt 1 1))) hx hdx
    have hX : IsQ K (upd (upd (upd H2 dx2 (.own x)) x (.ins (cA K) dx2 [])) x (.ins (cA K) dx2 (amtQ (Rat.divInt 1 1)))) x (1 : Rat) := ⟨dx2, by rw [upd_same, q_int]; rfl⟩
    have s2A := s12.trans sA
    refine ⟨3, m, bs, .ref x, "map", rfl, im.up s2A, hf, .inr ⟨rfl, noM_q hX, rfl⟩, fun q3 H3 s3 g3 hq3 => ?_⟩
    refine fun y dy hy hdy hney => ⟨y, dy, _, _, rfl, upd_same, .int _, .int _, .inl ⟨1, 1, rfl, rfl, by decide, by decide +kernel, rfl, ?_⟩⟩
    have sB := made_same (o1 := .ins (cA K) dy []) (o2 := .ins (cA K) dy (amtQ (Rat.divInt 1 1))) hy hdy
    have hY : IsQ K (upd (upd (upd H3 dy (.own y)) y (.ins (cA K) dy [])) y (.ins (cA K) dy (amtQ (Rat.divInt 1 1)))) y (1 : Rat) := ⟨dy, by rw [upd_same, q_int]; rfl⟩
    refine ⟨(by show 2 ≤ sizeLine; decide), fun q4 gq4 => ?_⟩
    have s4 := AT.Same.up (o := .lst [.str "map", .ref y]) gq4
    have sB4 := sB.trans s4
    obtain ⟨d5, e5⟩ := id ((hX.up s3).up sB4)
    obtain ⟨d6, e6⟩ := id (hY.up s4)
    refine ⟨q3, q4, _, _, rfl, rfl, sB4 _ _ hq3, upd_same, rfl, (fun i u v e1 e2 => ?_), _, rfl, iteF ?_⟩
    · match i, e1, e2 with
      | 0, e1, e2 => cases e1; cases e2; exact .inl (.inr ⟨rfl, rfl, rfl⟩)
      | 1, e1, e2 =>
        cases e1
        cases e2
        exact .inr ⟨x, y, _, _, _, _, rfl, rfl, e5, e6, 1, 1, (hX.up s3).up sB4, hY.up s4, (decide_eq_true rfl).symm⟩
      | i + 2, e1, e2 => simp at e1
    have s5 := (s2A.trans s3).trans sB4
    exact ⟨rfl, s5⟩
end
end K09

set_option maxHeartbeats 4000000
namespace K09
open PySem PySem.Spec PyProof.Rows L2 AT
/-! ### how maps make values longer -/
theorem Fine.bits24 {m : Nat} {x : Rat} (h : Fine m x) (hm : m ≤ 100000) : Bits 24 x := by
  obtain ⟨k, rfl, hk⟩ := h
  rw [fine_eq]
  refine bits_of (by decide) ?_ (by decide)
  have : (2 : Nat) ^ 24 = 16777216 := by decide
  omega
def Grk (f : Rat → Rat) (k : Nat) : Prop := ∀ n x, Bits n x → Bits (n + 98 * k) (f x)
theorem go_grow : ∀ {r : List (Rat × Rat)} {p : Rat × Rat}, PL.Ris (p :: r) → (∀ q ∈ p :: r, FineP 20000 q) → ∀ {n : Nat} {x : Rat}, Bits n x → Bits (n + 98) (PL.goQ p r x)
  | [], p, _, hf, n, x, bx => by
    have fp := hf p (by simp)
    rw [PL.go_nil]
    exact ((fp.2.bits24 (by decide)).add (bx.sub (fp.1.bits24 (by decide)))).mono (by omega)
  | q :: r, p, hr, hf, n, x, bx => by
    have fp := hf p (by simp)
    have fq := hf q (by simp)
    rw [PL.go_cons]
    by_cases c : x < q.1
    · rw [if_pos c]
      have nz : q.1 - p.1 ≠ 0 := by have := hr.1.1; grind
      exact ((fp.2.bits24 (by decide)).add (((bx.sub (fp.1.bits24 (by decide))).div ((fq.1.sub fp.1).bits24 (by decide)) nz).mul ((fq.2.sub fp.2).bits24 (by decide)))).mono (by omega)
    · rw [if_neg c]
      exact go_grow hr.2 (fun z hz => hf z (List.mem_cons_of_mem _ hz)) bx
theorem fine_grow {ps : List (Rat × Rat)} (hr : PL.Ris ps) (hf : ∀ p ∈ ps, FineP 20000 p) : Grk (PL.ledR ps) 1 := by
  intro n x bx
  cases ps with
  | nil => exact bx.mono (by omega)
  | cons p r =>
    rw [PL.led_cons]
    by_cases c : x < p.1
    · rw [if_pos c]
      have fp := hf p (by simp)
      exact ((fp.2.bits24 (by decide)).add (bx.sub (fp.1.bits24 (by decide)))).mono (by omega)
    · rw [if_neg c]
      exact go_grow hr hf bx
theorem fine_swap {ps : List (Rat × Rat)} {n : Nat} (hf : ∀ p ∈ ps, FineP n p) : ∀ p ∈ ps.map PL.swp, FineP n p := fun p hp => by
  obtain ⟨q, hq, rfl⟩ := List.mem_map.mp hp
  exact ⟨(hf q hq).2, (hf q hq).1⟩
theorem zero1 : Bits 1 (0 : Rat) := ⟨by decide +kernel, by decide +kernel⟩
/-- bends of a map of k maps -/
structure MF (bs : List (Rat × Rat)) (f fi : Rat → Rat) (k : Nat) : Prop where
  cm : PL.CM bs f
  inv : PL.Inv f fi
  g1 : Grk f k
  g2 : Grk fi k
  bp : ∀ p ∈ bs, BitsP (52 + 98 * k) p
  len : bs.length ≤ 20 * k
theorem MF.fine {bs : List (Rat × Rat)} {f fi : Rat → Rat} {k : Nat} (h : MF bs f fi k) (hk : k ≤ 3) : FineM bs :=
  ⟨rising_of h.cm.ris, fun p hp => ⟨(h.bp p hp).1.mono (by omega), (h.bp p hp).2.mono (by omega)⟩, by have := h.len; omega, h.cm.ne⟩
theorem MF.of {ps : List (Rat × Rat)} {f fi : Rat → Rat} {k : Nat} (hr : PL.Ris ps) (hv : ∀ x, PL.ledR ps x = f x) (hi : PL.Inv f fi) (g1 : Grk f k) (g2 : Grk fi k) (hb : ∀ p ∈ ps, BitsP (52 + 98 * k) p) (hl : ps.length < 20 * k) : MF (PL.bendF ps) f fi k := by
  refine ⟨PL.CM.of hr hv, hi, g1, g2, fun p hp => ?_, ?_⟩
  · rcases PL.bendF_mem hp with h | rfl
    · exact hb p h
    · refine ⟨zero1.mono (by omega), ?_⟩
      show Bits _ (PL.ledR ps 0)
      rw [hv]
      exact (g1 1 0 zero1).mono (by omega)
  · have := PL.bendF_len ps
    omega
theorem MF.of' {ps : List (Rat × Rat)} {f fi : Rat → Rat} {k : Nat} (hn : ps ≠ []) (hr : PL.Ris ps) (hv : ∀ x, PL.ledR ps x = f x) (hi : PL.Inv f fi) (g1 : Grk f k) (g2 : Grk fi k) (hb : ∀ p ∈ ps, BitsP (52 + 98 * k) p) (hl : ps.length ≤ 20 * k) : MF (PL.bendF ps) f fi k := by
  refine ⟨PL.CM.of hr hv, hi, g1, g2, fun p hp => ?_, ?_⟩
  · rcases PL.bendF_mem hp with h | rfl
    · exact hb p h
    · refine ⟨zero1.mono (by omega), ?_⟩
      show Bits _ (PL.ledR ps 0)
      rw [hv]
      exact (g1 1 0 zero1).mono (by omega)
  · have e : (PL.bendF ps).length ≤ ps.length := by
      unfold PL.bendF
      split
      · exact List.length_pos_iff.mpr hn
      · exact PL.bendR_len 1 ps
    omega
theorem MF.base {ps : List (Rat × Rat)} (hr : PL.Ris ps) (hf : ∀ p ∈ ps, FineP 20000 p) (hl : ps.length ≤ 10) : MF (PL.bendF ps) (PL.ledR ps) (PL.ledR (ps.map PL.swp)) 1 :=
  .of hr (fun _ => rfl) (PL.inv_led hr) (fine_grow hr hf) (fine_grow (PL.ris_swp hr) (fine_swap hf)) (fun p hp => ⟨((hf p hp).1.bits24 (by decide)).mono (by omega), ((hf p hp).2.bits24 (by decide)).mono (by omega)⟩) (by omega)
theorem MF.back {bs : List (Rat × Rat)} {f fi : Rat → Rat} {k : Nat} (h : MF bs f fi k) : MF (PL.bendF (bs.map PL.swp)) fi f k := by
  refine .of' (fun z => h.cm.ne (by simpa using z)) (PL.ris_swp h.cm.ris) (h.cm.swp_val h.inv) h.inv.symm h.g2 h.g1 (fun p hp => ?_) (by rw [List.length_map]; exact h.len)
  obtain ⟨q, hq, rfl⟩ := List.mem_map.mp hp
  exact ⟨(h.bp q hq).2, (h.bp q hq).1⟩
theorem MF.at {bs cs : List (Rat × Rat)} {f fi g gi : Rat → Rat} {k l : Nat} (h : MF bs f fi k) (j : MF cs g gi l) : ∀ x ∈ places bs cs, Bits (52 + 98 * (k + l)) x ∧ Bits (52 + 98 * (k + l)) (PL.ledR bs x) ∧ Bits (52 + 98 * (k + l)) (PL.ledR cs (PL.ledR bs x)) := by
  intro x hx
  rw [j.cm.val, h.cm.val]
  rcases PL.mem_plc hx with ⟨p, hp, rfl⟩ | ⟨q, hq, rfl⟩
  · rw [h.cm.pt hp]
    exact ⟨(h.bp p hp).1.mono (by omega), (h.bp p hp).2.mono (by omega), (j.g1 _ _ (h.bp p hp).2).mono (by omega)⟩
  · rw [h.cm.swp_val h.inv, (h.inv q.1).2, j.cm.pt hq]
    exact ⟨(h.g2 _ _ (j.bp q hq).1).mono (by omega), (j.bp q hq).1.mono (by omega), (j.bp q hq).2.mono (by omega)⟩
theorem MF.thn {bs cs : List (Rat × Rat)} {f fi g gi : Rat → Rat} {k l : Nat} (h : MF bs f fi k) (j : MF cs g gi l) : MF (PL.bendF (PL.pts (fun x => PL.ledR cs (PL.ledR bs x)) (places bs cs))) (fun x => g (f x)) (fun x => fi (gi x)) (k + l) := by
  have hlen := PL.plc_len bs cs
  have l1 := h.len
  have l2 := j.len
  refine .of' ?_ (PL.then_ris h.cm.ris j.cm.ris) (fun x => ?_) (h.inv.thn j.inv) (fun n x b => ?_) (fun n x b => ?_) (fun p hp => ?_) ?_
  · intro z
    have z : places bs cs = [] := List.map_eq_nil_iff.mp z
    cases hb : bs with
    | nil => exact h.cm.ne hb
    | cons p r =>
      have : p.1 ∈ places bs cs := (PL.rise_mem _ _).mpr (List.mem_append_left _ (List.mem_map.mpr ⟨p, by rw [hb]; simp, rfl⟩))
      rw [z] at this
      cases this
  · rw [show places bs cs = PL.plc bs cs from rfl, PL.then_val h.cm.ris j.cm.ris, h.cm.val, j.cm.val]
  · exact (j.g1 _ _ (h.g1 _ _ b)).mono (by omega)
  · exact (h.g2 _ _ (j.g2 _ _ b)).mono (by omega)
  · obtain ⟨x, hx, rfl⟩ := List.mem_map.mp hp
    obtain ⟨b1, b2, b3⟩ := h.at j x hx
    exact ⟨b1, b3⟩
  · have : (PL.pts (fun x => PL.ledR cs (PL.ledR bs x)) (places bs cs)).length = (PL.plc bs cs).length := List.length_map _
    omega
theorem MF.eq {bs cs : List (Rat × Rat)} {f fi g gi : Rat → Rat} {k l : Nat} (h : MF bs f fi k) (j : MF cs g gi l) (e : ∀ x, f x = g x) : bs = cs := h.cm.eq j.cm e
theorem MF.one : MF (PL.bendF []) (fun x => x) (fun x => x) 1 := .of (ps := []) trivial (fun _ => rfl) (fun x => ⟨rfl, rfl⟩) (fun n x b => b.mono (by omega)) (fun n x b => b.mono (by omega)) (fun _ h => nomatch h) (by decide)
end K09

set_option maxHeartbeats 4000000
namespace K09
open PySem PySem.Spec PyProof.Rows L2 AT
/-- the law's points -/
def Bas (ps : List (Rat × Rat)) : Prop := Rising ps ∧ (∀ p ∈ ps, FineP 20000 p) ∧ ps.length ≤ 10
theorem Bas.finL {ps : List (Rat × Rat)} (h : Bas ps) : FinL ps := ⟨h.1, fun p hp => ⟨((h.2.1 p hp).1.bits24 (by decide)).mono (by decide), ((h.2.1 p hp).2.bits24 (by decide)).mono (by decide)⟩, by have := h.2.2; omega⟩
theorem Bas.mf {ps : List (Rat × Rat)} (h : Bas ps) : MF (PL.bendF ps) (PL.ledR ps) (PL.ledR (ps.map PL.swp)) 1 := .base (ris_of h.1) h.2.1 h.2.2
theorem bas_at {ps qs : List (Rat × Rat)} (h : Bas ps) (k : Bas qs) {x : Rat} (hx : x ∈ places ps qs) : Bits 122 x ∧ Bits 220 (PL.ledR ps x) ∧ Bits 318 (PL.ledR qs (PL.ledR ps x)) := by
  have b : Bits 122 x := by
    rcases PL.mem_plc hx with ⟨p, hp, rfl⟩ | ⟨q, hq, rfl⟩
    · exact ((h.2.1 p hp).1.bits24 (by decide)).mono (by decide)
    · exact h.mf.g2 24 _ ((k.2.1 q hq).1.bits24 (by decide))
  have b2 := h.mf.g1 _ _ b
  exact ⟨b, b2, k.mf.g1 _ _ b2⟩
theorem chain_fin {ps qs : List (Rat × Rat)} (h : Bas ps) (k : Bas qs) : FinL (PL.pts (fun x => PL.ledR qs (PL.ledR ps x)) (places ps qs)) := by
  refine ⟨rising_of (PL.then_ris (ris_of h.1) (ris_of k.1)), fun p hp => ?_, ?_⟩
  · obtain ⟨x, hx, rfl⟩ := List.mem_map.mp hp
    obtain ⟨b1, b2, b3⟩ := bas_at h k hx
    exact ⟨b1.mono (by decide), b3.mono (by decide)⟩
  · have e : (PL.pts (fun x => PL.ledR qs (PL.ledR ps x)) (places ps qs)).length = (PL.plc ps qs).length := List.length_map _
    have := PL.plc_len ps qs
    have := h.2.2
    have := k.2.2
    omega
theorem pace_bits {ps : List (Rat × Rat)} (h : FinL ps) (x : Rat) : Bits 3000 (PL.paceR 1 ps x) := by
  have b1 : Bits 3000 (1 : Rat) := ⟨by decide +kernel, by decide +kernel⟩
  rcases PL.pace_of ps 1 x with e | e | ⟨p, q, hp, hq, e⟩
  · rw [e]; exact b1
  · rw [e]; exact b1
  · rw [e]
    by_cases z : q.1 - p.1 = 0
    · have e2 : PL.slp p q = 0 := by unfold PL.slp; rw [z]; grind
      rw [e2]
      exact zero1.mono (by decide)
    · exact (((h.2.1 q hq).2.sub (h.2.1 p hp).2).div ((h.2.1 q hq).1.sub (h.2.1 p hp).1) z).mono (by decide)
section
variable {P : Program} {w : World} {K : PySem.W.Frag} {mg : Str → Option Value} {base : Heap}
theorem Pts.append {H : Hp} {vs ws : List V} {ps qs : List (Rat × Rat)} (h : Pts K H vs ps) (g : Pts K H ws qs) : Pts K H (vs ++ ws) (ps ++ qs) := by
  induction h with
  | nil => exact g
  | cons a b ih => exact .cons a ih
def spPR (K : PySem.W.Frag) : Sp := fun vs H Q _ => ∃ m1 m2 m12 mb S D1 ws1 ps1 D2 ws2 ps2 D3 b12 bb, vs = [.ref m1, .ref m2, .ref m12, .ref mb, .ref S] ∧ H S = some (.lst [.ref D1, .ref D2, .ref D3]) ∧ Lst H D1 ws1 ps1 ∧ Lst H D2 ws2 ps2 ∧ Bas ps1 ∧ Bas ps2 ∧
  IsMap K H m1 (PL.bendF ps1) ∧ IsMap K H m12 b12 ∧ IsMap K H mb bb ∧ MF b12 (fun x => PL.ledR ps2 (PL.ledR ps1 x)) (fun x => PL.ledR (ps1.map PL.swp) (PL.ledR (ps2.map PL.swp) x)) 2 ∧ MF bb (PL.ledR (ps1.map PL.swp)) (PL.ledR ps1) 1 ∧ ∀ H', Same H H' → Q (.bl true) H'
theorem sc_w_points_right : FnScope ["_law_one", "_law_two", "_law_both", "_law_back", "_law_some", "_law_chained_here", "_law_beat", "_law_second", "_law_point", "_law_given_here"] ["_law_one", "_law_two", "_law_both", "_law_back", "_law_some"] (defScope s_w_points_right) := ⟨rfl, rfl, rfl, by decide +kernel, rfl, by decide +kernel, by decide +kernel⟩
theorem ok_w_points_right (T : Tx K mg base) : Ok P w K mg base 13 (d_w_points_right.loc K) ["_law_one", "_law_two", "_law_both", "_law_back", "_law_some"] (spPR K) := by
  refine mk_ok (k := 12) T.f_w_points_right sc_w_points_right (fun _ _ _ _ _ _ us hl => match us, hl with | [_, _, _, _, _], _ => rfl) (fun vs H Q E h => ?_) (fun cdv A outer s H vs Q E hr h => ?_)
  · obtain ⟨m1, m2, m12, mb, S, D1, ws1, ps1, D2, ws2, ps2, D3, b12, bb, rfl, _⟩ := h
    rfl
  · obtain ⟨m1, m2, m12, mb, S, D1, ws1, ps1, D2, ws2, ps2, D3, b12, bb, rfl, hS, hL1, hL2, B1, B2, im1, im12, imb, M12, Mb, k⟩ := h
    refine ⟨_, (pss_cons (ps_set (i := 5) sc_w_points_right.nd rfl (Or.inl rfl) (ok_call (ok_w_chained T) (hr.mono (by decide)) rfl T.g_w_chained passL (pa_cons (pe_ix ix_list (pv 4) pe_int (fun _ _ => rfl)) (pa_cons (pe_ix ix_list (pv 4) pe_int (fun _ _ => rfl)) pa_nil))))
      (pss_cons (ps_if (pt_cmpR (op_neD hr.units) (ok_call (ok_w_pairs T) (hr.mono (by decide)) rfl T.g_w_pairs passL (pa_cons (ok_meth0 T.cls_TempoMap T.m_TempoMap_points (ok_TempoMap_points T) (hr.mono (by decide)) passL (pv 2) ) pa_nil)) (ok_call (ok_w_bends T) (hr.mono (by decide)) rfl T.g_w_bends passL (pa_cons (pv 5) pa_nil)) (nomark _)) (pss_one (ps_ret pe_bl)) pss_nil)
      (pss_cons (ps_if (pt_cmpR (op_neD hr.units) (ok_call (ok_w_pairs T) (hr.mono (by decide)) rfl T.g_w_pairs passL (pa_cons (ok_meth0 T.cls_TempoMap T.m_TempoMap_points (ok_TempoMap_points T) (hr.mono (by decide)) passL (pv 3) ) pa_nil)) (ok_call (ok_w_bends T) (hr.mono (by decide)) rfl T.g_w_bends passL (pa_cons (pe_lc (own := [("_law_beat", 6), ("_law_second", 7)]) (g := (gTup K 2 (gCons (gName 6) (gCons (gName 7) gNil)))) (tt := tYes) (by rfl) sc_w_points_right.nd (pi_list (pe_ix ix_list (pv 4) pe_int (fun _ _ => rfl))) (blkOk_by (own := [("_law_beat", 6), ("_law_second", 7)]) (N := ["_law_one", "_law_two", "_law_both", "_law_back", "_law_some", "_law_chained_here", "_law_beat", "_law_second", "_law_point", "_law_given_here"]) (sc := defScope s_w_points_right) (by decide +kernel)) (fun _ _ _ _ _ => (pg_tup rfl (pgs_cons (pg_name (i := 6) sc_w_points_right.nd rfl (Or.inl rfl)) (pgs_cons (pg_name (i := 7) sc_w_points_right.nd rfl (Or.inl rfl)) pgs_nil)))) (fun _ _ _ _ _ => pts_nil) (fun _ _ _ _ _ => (pe_tup (pa_cons (pv 7) (pa_cons (pv 6) pa_nil))))) pa_nil)) (nomark _)) (pss_one (ps_ret pe_bl)) pss_nil)
      (pss_cons (ps_for (passes_of rfl) rfl (pi_list (pe_op op_cat (pe_lc (own := [("_law_point", 8)]) (g := (gName 8)) (tt := tYes) (by rfl) sc_w_points_right.nd (pi_list (pe_op op_cat (ok_meth0 T.cls_TempoMap T.m_TempoMap_points (ok_TempoMap_points T) (hr.mono (by decide)) passL (pv 2) ) (ok_meth0 T.cls_TempoMap T.m_TempoMap_points (ok_TempoMap_points T) (hr.mono (by decide)) passL (pv 0) ))) (blkOk_by (own := [("_law_point", 8)]) (N := ["_law_one", "_law_two", "_law_both", "_law_back", "_law_some", "_law_chained_here", "_law_beat", "_law_second", "_law_point", "_law_given_here"]) (sc := defScope s_w_points_right) (by decide +kernel)) (fun _ _ _ _ _ => (pg_name (i := 8) sc_w_points_right.nd rfl (Or.inl rfl))) (fun _ _ _ _ _ => pts_nil) (fun _ _ _ _ _ => (pe_ix (show IxR _ (rIxT K) from ix_tup) (pv 8) pe_int (fun _ _ => rfl)))) (pe_lst (pa_cons (ok_make T.mkr_Amount (ok_Amount_init_ T) (hr.mono (by decide)) rfl T.g_Amount (passE rfl rfl rfl rfl) (pa_cons pe_int (pa_cons pe_int pa_nil))) (pa_cons (ok_makeD T.mkr_Amount (okd_Amount_init_ T) (hr.mono (by decide)) rfl T.g_Amount (passE rfl rfl rfl rfl) (pa_cons (pe_un un_neg pe_int) pa_nil)) pa_nil))))) (pg_name (i := 9) sc_w_points_right.nd rfl (Or.inl rfl)) (pss_cons (ps_set (i := 6) sc_w_points_right.nd rfl (Or.inl rfl) (ok_call (ok_w_pair T) (hr.mono (by decide)) rfl T.g_w_pair passL (pa_cons (pv 9) pa_nil)))
      (pss_cons (ps_if (pt_cmpR (op_neD hr.units) (ok_call (ok_w_pair T) (hr.mono (by decide)) rfl T.g_w_pair passL (pa_cons (ok_meth T.cls_TempoMap T.m_TempoMap_pace (ok_TempoMap_pace T) (hr.mono (by decide)) (passE rfl rfl rfl rfl) (pv 2) (pa_cons (pv 9) pa_nil)) pa_nil)) (ok_call (ok_w_pace T) (hr.mono (by decide)) rfl T.g_w_pace passL (pa_cons (pv 5) (pa_cons (pv 6) pa_nil))) (nomark _)) (pss_one (ps_ret pe_bl)) pss_nil)
      (pss_one (ps_if (pt_cmpR (op_neD hr.units) (ok_call (ok_w_pair T) (hr.mono (by decide)) rfl T.g_w_pair passL (pa_cons (ok_meth T.cls_TempoMap T.m_TempoMap_pace (ok_TempoMap_pace T) (hr.mono (by decide)) (passE rfl rfl rfl rfl) (pv 3) (pa_cons (ok_callO T.co_TempoMap (ok_TempoMap_call_ T) (hr.mono (by decide)) (passE rfl rfl rfl rfl) (pv 0) (pa_cons (pv 9) pa_nil)) pa_nil)) pa_nil)) (ok_call (ok_w_quotient T) (hr.mono (by decide)) rfl T.g_w_quotient passL (pa_cons (pe_tup (pa_cons pe_int (pa_cons pe_int pa_nil))) (pa_cons (ok_call (ok_w_pace T) (hr.mono (by decide)) rfl T.g_w_pace passL (pa_cons (pe_ix ix_list (pv 4) pe_int (fun _ _ => rfl)) (pa_cons (pv 6) pa_nil))) pa_nil))) (nomark _)) (pss_one (ps_ret pe_bl)) pss_nil)))))
      (pss_one (ps_ret pe_bl)))))), ?_⟩
    have hsz : sizeLine = 16777216 := sizeLine_eq
    have up : ∀ {q : Rat} {m k : Nat}, Bits m q → m ≤ k → Bits k q := fun h l => h.mono l
    have F1 := B1.finL
    have F2 := B2.finL
    have M1 := B1.mf
    have Fc := chain_fin B1 B2
    have r1 := ris_of B1.1
    have r2 := ris_of B2.1
    have cv : ∀ x, PL.ledR (PL.pts (fun x => PL.ledR ps2 (PL.ledR ps1 x)) (places ps1 ps2)) x = PL.ledR ps2 (PL.ledR ps1 x) := PL.then_val r1 r2
    have e12 : b12 = PL.bendF (PL.pts (fun x => PL.ledR ps2 (PL.ledR ps1 x)) (places ps1 ps2)) := M12.cm.eq (PL.CM.of (ris_of Fc.1) cv) fun _ => rfl
    have ebb : bb = PL.bendF (ps1.map PL.swp) := Mb.cm.eq (PL.CM.of (PL.ris_swp r1) fun _ => rfl) fun _ => rfl
    have fin12 := M12.fine (by decide)
    have finb := Mb.fine (by decide)
    have fin1 := M1.fine (by decide)
    obtain ⟨dx1, t1, v1, i1, i2, i3⟩ := id im1
    obtain ⟨dx12, t12, v12, j1, j2, j3⟩ := id im12
    obtain ⟨dxb, tb, vb, c1, c2, c3⟩ := id imb
    have hall : ∀ x ∈ allB ps1 ps2, Bits 400 x ∧ Bits 400 (PL.ledR ps1 x) := fun x hx => by
      obtain ⟨b1, b2, b3⟩ := bas_at B1 B2 ((PL.rise_mem _ x).mpr hx)
      exact ⟨up b1 (by decide), up b2 (by decide)⟩
    refine ⟨_, rfl, S, _, 0, _, rfl, rfl, SqL.of hS, rfl, _, rfl, S, _, 1, _, rfl, rfl, SqL.of hS, rfl, D1, ws1, ps1, D2, ws2, ps2, rfl, hL1, F1, hL2, F2, hall, fun F us H1 s1 hFn hLF => ?_⟩
    generalize PL.pts (fun x => PL.ledR ps2 (PL.ledR ps1 x)) (places ps1 ps2) = cp at hLF Fc cv e12
    -- the points of both
    refine ⟨_, rfl, m12, dx12, _, rfl, s1 _ _ j1, rfl, m12, b12, rfl, im12.up s1, fun Da usa H2 s2 _ hla hpa => ?_⟩
    refine ⟨Da, usa, b12, rfl, hla, hpa, fin12.2.2.1, fun Db wsb H3 s3 _ hLb => ?_⟩
    refine ⟨_, rfl, F, us, cp, rfl, (hLF.up s2).up s3, Fc, fun Dc wsc H4 s4 _ hLc => ?_⟩
    refine ⟨dl b12, dl (PL.bendF cp), (hLb.up s4).dp, hLc.dp, shaped_dl _, shaped_dl _, _, rfl, ?_⟩
    rw [eqv_dl, decide_eq_true e12]
    refine iteF ?_
    have s14 := (s2.trans s3).trans s4
    have s04 := s1.trans s14
    have hLF4 := hLF.up s14
    clear hLb hLc hla hpa
    -- the points of the inverse
    refine ⟨_, rfl, mb, dxb, _, rfl, s04 _ _ c1, rfl, mb, bb, rfl, imb.up s04, fun Da usa H5 s5 _ hla hpa => ?_⟩
    refine ⟨Da, usa, bb, rfl, hla, hpa, finb.2.2.1, fun Db wsb H6 s6 _ hLb => ?_⟩
    have s06 := (s04.trans s5).trans s6
    have hL16 := hL1.up s06
    have hl1 := hL16.lps.length
    have n1 := B1.2.2
    refine ⟨_, rfl, S, _, 0, _, rfl, rfl, SqL.of (s06 _ _ hS), rfl, D1, rfl, ⟨_, SqL.of hL16.at_⟩, fun G gG => ?_⟩
    refine lc_list (K := K) (a := D1) (xs := ws1) (fun j Hj => Same H6 Hj ∧ ∃ acc, Hj G = some (.lst acc) ∧ LPs Hj acc ((ps1.take j).map PL.swp)) ⟨AT.Same.up gG, [], upd_same, .nil⟩ (fun j Hj _ h => SqL.of (h.1 _ _ hL16.at_)) (fun j x Hj hx hP => ?_) (fun H7 hP => ?_)
    · obtain ⟨q, eq, t, cx, cy, rfl, ht, hx1, hy1⟩ := hL16.lps.at hx
      obtain ⟨sj, acc, hacc, hlp⟩ := hP
      have lu := hlp.length
      rw [List.length_map, List.length_take] at lu
      refine ⟨t, _, rfl, SqT.of (sj _ _ ht), rfl, _, _, rfl, _, _, rfl, rfl, rfl, ?_⟩
      dsimp only [tYes]
      refine iteT ⟨_, rfl, _, rfl, (by show 2 ≤ sizeLine; decide), fun t2 gt2 => ?_⟩
      have sT := AT.Same.up (o := .tup [cy, cx]) gt2
      refine ⟨acc, sT _ _ hacc, (by omega), AT.Same.new (sj.trans sT) gG, acc ++ [.ref t2], upd_same, ?_⟩
      rw [List.take_add_one, eq, List.map_append]
      exact ((hlp.up sT).app ⟨t2, cy, cx, rfl, upd_same, hy1.up (sj.trans sT), hx1.up (sj.trans sT)⟩).upT (sameT_set (sT _ _ hacc))
    obtain ⟨s7, accG, hG, hlG⟩ := hP
    rw [hl1, List.take_length] at hlG
    refine ⟨G, accG, ps1.map PL.swp, rfl, ⟨hG, hlG⟩, F1.swp, fun Dc wsc H8 s8 _ hLc => ?_⟩
    refine ⟨dl bb, dl (PL.bendF (ps1.map PL.swp)), ((hLb.up s7).up s8).dp, hLc.dp, shaped_dl _, shaped_dl _, _, rfl, ?_⟩
    rw [eqv_dl, decide_eq_true ebb]
    refine iteF ?_
    have s48 := (s5.trans s6).trans (s7.trans s8)
    have s08 := s04.trans s48
    have hLF8 := hLF4.up s48
    clear hLb hLc hla hpa hlG hG
    -- the places
    refine ⟨_, rfl, m12, dx12, _, rfl, s08 _ _ j1, rfl, m12, b12, rfl, im12.up s08, fun Da usa H9 s9 _ hla hpa => ?_⟩
    refine ⟨_, rfl, m1, dx1, _, rfl, (s08.trans s9) _ _ i1, rfl, m1, _, rfl, im1.up (s08.trans s9), fun Db usb HA sA _ hlb hpb => ?_⟩
    have la := hpa.length
    have lb := hpb.length
    have nla := M12.len
    have nlb := M1.len
    refine ⟨Da, Db, usa, usb, rfl, rfl, sA _ _ hla, hlb, (by omega), fun Dc gDc => ?_⟩
    have sU := AT.Same.up (o := .lst (usa ++ usb)) gDc
    have hpts := ((hpa.up sA).append hpb).up sU
    refine ⟨Dc, rfl, ⟨_, SqL.of upd_same⟩, fun G2 gG2 => ?_⟩
    refine lc_list (K := K) (a := Dc) (xs := usa ++ usb) (fun j Hj => Same (upd HA Dc (.lst (usa ++ usb))) Hj ∧ ∃ acc, Hj G2 = some (.lst acc) ∧ Qs K Hj acc (((b12 ++ PL.bendF ps1).take j).map (·.1))) ⟨AT.Same.up gG2, [], upd_same, .nil⟩ (fun j Hj _ h => SqL.of (h.1 _ _ upd_same)) (fun j x Hj hx hP => ?_) (fun HB hP => ?_)
    · obtain ⟨q, eq, pt⟩ := hpts.at hx
      obtain ⟨sj, acc, hacc, hq⟩ := hP
      obtain ⟨t, a, b, rfl, ht, ha, hb⟩ := pt.up sj
      have lu := hq.length
      rw [List.length_map, List.length_take] at lu
      have hj : j < (usa ++ usb).length := (List.getElem?_eq_some_iff.mp hx).1
      rw [List.length_append] at hj
      refine ⟨rfl, ?_⟩
      dsimp only [tYes]
      refine iteT ⟨_, rfl, t, _, 0, _, rfl, rfl, SqT.of ht, rfl, acc, hacc, (by omega), AT.Same.new sj gG2, acc ++ [.ref a], upd_same, ?_⟩
      rw [List.take_add_one, eq, List.map_append]
      exact (hq.app (.cons ha .nil)).set hacc
    obtain ⟨sB, acc, hacc, hq⟩ := hP
    rw [hpts.length, List.take_length] at hq
    have lq := hq.length
    rw [List.length_map, List.length_append] at lq
    have s0B := (((s08.trans s9).trans sA).trans sU).trans sB
    have hLFB := hLF8.up ((((s9.trans sA).trans sU).trans sB))
    have third : Rat.divInt 1 3 = (1 : Rat) / 3 := by decide +kernel
    have neg9 : Rat.divInt (-900) 1 = (-900 : Rat) := by decide +kernel
    refine fun u e gu ge _ => ⟨u, e, _, _, rfl, upd_same, .int _, .int _, .inl ⟨1, 3, rfl, rfl, by decide, by decide +kernel, rfl, ?_⟩⟩
    have sM := made_same (o1 := .ins (cA K) e []) (o2 := .ins (cA K) e (amtQ (Rat.divInt 1 3))) gu ge
    have qu : IsQ K (upd (upd (upd HB e (.own u)) u (.ins (cA K) e [])) u (.ins (cA K) e (amtQ (Rat.divInt 1 3)))) u (Rat.divInt 1 3) := ⟨e, upd_same⟩
    refine ⟨900, rfl, fun u2 e2 gu2 ge2 _ => ⟨u2, e2, _, _, rfl, upd_same, .int _, .int _, .inl ⟨-900, 1, rfl, rfl, by decide, by decide +kernel, rfl, ?_⟩⟩⟩
    have sM2 := made_same (o1 := .ins (cA K) e2 []) (o2 := .ins (cA K) e2 (amtQ (Rat.divInt (-900) 1))) gu2 ge2
    have qu2 : ∀ Hx : Hp, IsQ K (upd Hx u2 (.ins (cA K) e2 (amtQ (Rat.divInt (-900) 1)))) u2 (Rat.divInt (-900) 1) := fun Hx => ⟨e2, upd_same⟩
    refine ⟨(by show 2 ≤ sizeLine; decide), fun L gL => ?_⟩
    have sL := AT.Same.up (o := .lst [.ref u, .ref u2]) gL
    have sML := (sM.trans sM2).trans sL
    refine ⟨G2, L, acc, [.ref u, .ref u2], rfl, rfl, sML _ _ hacc, upd_same, (by simp only [List.length_cons, List.length_nil]; omega), fun R gR => ?_⟩
    have sR := AT.Same.up (o := .lst (acc ++ [.ref u, .ref u2])) gR
    have qall := ((hq.up sML).app (.cons (((qu.up sM2).up sL)) (.cons ((qu2 _).up sL) .nil))).up sR
    have hbx : ∀ x ∈ (b12 ++ PL.bendF ps1).map (·.1) ++ [Rat.divInt 1 3, Rat.divInt (-900) 1], Bits 302 x := by
      intro x hx
      rcases List.mem_append.mp hx with hx | hx
      · obtain ⟨p, hp, rfl⟩ := List.mem_map.mp hx
        rcases List.mem_append.mp hp with hp | hp
        · exact up (M12.bp p hp).1 (by decide)
        · exact up (M1.bp p hp).1 (by decide)
      · simp only [List.mem_cons, List.not_mem_nil, or_false] at hx
        rcases hx with rfl | rfl
        · exact ⟨by decide +kernel, by decide +kernel⟩
        · exact ⟨by decide +kernel, by decide +kernel⟩
    have s0R := s0B.trans (sML.trans sR)
    have hLFR := hLFB.up (sML.trans sR)
    refine ⟨R, rfl, ⟨_, SqL.of upd_same⟩, for_list (xs := acc ++ [.ref u, .ref u2]) (fun j σ' Hj => ∃ o6 o9, σ' = ([some (.ref m1), some (.ref m2), some (.ref m12), some (.ref mb), some (.ref S), some (.ref F), o6, none, none, o9] : L2.St) ∧ Same H Hj ∧ Hj R = some (.lst (acc ++ [.ref u, .ref u2])) ∧ Lst Hj F us cp ∧ Qs K Hj (acc ++ [.ref u, .ref u2]) ((b12 ++ PL.bendF ps1).map (·.1) ++ [Rat.divInt 1 3, Rat.divInt (-900) 1])) ⟨_, _, rfl, s0R, upd_same, hLFR, qall⟩ (fun j σ' Hj _ hP => ?_) (fun j y σ' Hj hy hP => ?_) (fun σ' Hj hP => ?_)⟩
    · obtain ⟨o6, o9, rfl, _, hR, _⟩ := hP
      exact SqL.of hR
    · obtain ⟨o6, o9, rfl, sj, hR, hLj, qj⟩ := hP
      obtain ⟨a, x, rfl, ex, ha⟩ := qj.at hy
      have bx := hbx x (List.mem_of_getElem? ex)
      refine ⟨_, rfl, a, x, rfl, ha, fun v H1 s1 pv => ?_⟩
      have sj1 := sj.trans s1
      refine ⟨_, rfl, m12, dx12, _, rfl, sj1 _ _ j1, rfl, _, rfl, m12, b12, .ref a, rfl, im12.up sj1, fin12, .amt (ha.up s1), .inl ⟨x, .obj (ha.up s1), up bx (by decide), fun r H2 s2 hr2 => ?_⟩⟩
      refine ⟨r, _, rfl, hr2, fun v2 H3 s3 pv2 => ?_⟩
      have s13 := s2.trans s3
      refine ⟨_, rfl, _, rfl, F, us, cp, v, x, rfl, (hLj.up s1).up s13, Fc, pv.up s13, up bx (by decide), fun u4 H4 s4 pu => ?_⟩
      refine ⟨dq _, dq _, (pv2.up s4).dp, pu.dp, rfl, rfl, _, rfl, ?_⟩
      have ep : PL.paceR 1 b12 x = PL.paceR 1 cp x := PL.pace_same M12.cm.ris (ris_of Fc.1) (fun z => by rw [M12.cm.val, cv]) x
      rw [eqv_dq, decide_eq_true ep]
      refine iteF ?_
      have sj4 := (sj1.trans s13).trans s4
      have s14' := s13.trans s4
      have ha4 := (ha.up s1).up s14'
      have pv4 := pv.up s14'
      refine ⟨_, rfl, mb, dxb, _, rfl, sj4 _ _ c1, rfl, _, rfl, m1, rfl, _, rfl, .inr ⟨_, _, sj4 _ _ i1⟩, m1, _, .ref a, rfl, im1.up sj4, fin1, .amt ha4, .inl ⟨x, .obj ha4, up bx (by decide), fun r5 H5 s5 hr5 => ?_⟩⟩
      have bl : Bits 400 (PL.ledR (PL.bendF ps1) x) := by
        rw [M1.cm.val]
        exact M1.g1 302 x bx
      refine ⟨mb, bb, .ref r5, rfl, imb.up (sj4.trans s5), finb, .amt hr5, .inl ⟨_, .obj hr5, bl, fun r6 H6 s6 hr6 => ?_⟩⟩
      refine ⟨r6, _, rfl, hr6, fun v7 H7 s7 pv7 => ?_⟩
      refine ⟨(by show 2 ≤ sizeLine; decide), fun t gt => ?_⟩
      have sT := AT.Same.up (o := .tup [.int 1, .int 1]) gt
      have s57 := (s5.trans s6).trans s7
      have sj7 := (sj4.trans s57).trans sT
      refine ⟨_, rfl, S, _, 0, _, rfl, rfl, SqL.of (sj7 _ _ hS), rfl, _, rfl, D1, ws1, ps1, v, x, rfl, hL1.up sj7, F1, (pv4.up s57).up sT, up bx (by decide), fun u8 H8 s8 pu8 => ?_⟩
      have nz : PL.paceR 1 ps1 x ≠ 0 := by
        have := PL.pace_pos (l := ps1) (m := 1) (x := x) r1 (by decide)
        grind
      have p1 : PQ H8 (.ref t) 1 := ⟨t, rfl, s8 _ _ upd_same⟩
      refine ⟨.ref t, u8, 1, _, rfl, p1, pu8, ⟨by decide +kernel, by decide +kernel⟩, pace_bits F1 x, nz, fun w9 H9 s9 pw => ?_⟩
      refine ⟨dq _, dq _, (((pv7.up sT).up s8).up s9).dp, pw.dp, rfl, rfl, _, rfl, ?_⟩
      have ep2 : PL.paceR 1 bb (PL.ledR (PL.bendF ps1) x) = 1 / PL.paceR 1 ps1 x := by
        rw [M1.cm.val, ← PL.pace_inv r1 x]
        exact PL.pace_same Mb.cm.ris (PL.ris_swp r1) (fun z => Mb.cm.val z) _
      rw [eqv_dq, decide_eq_true ep2]
      have sAll := (s57.trans sT).trans (s8.trans s9)
      have sAll' := s14'.trans sAll
      refine iteF ⟨_, _, rfl, sj7.trans (s8.trans s9), (s1.trans sAll') _ _ hR, hLj.up (s1.trans sAll'), qj.up (s1.trans sAll')⟩
    · obtain ⟨o6, o9, rfl, sj, _⟩ := hP
      exact k Hj sj
end
end K09

set_option maxHeartbeats 4000000
namespace K09
open PySem PySem.Spec PyProof.Rows L2 AT
section
variable {P : Program} {w : World} {K : PySem.W.Frag} {mg : Str → Option Value} {base : Heap}
/-! ### what stays where a list changes -/
def SameI (H H' : Hp) : Prop := ∀ b o, (∀ xs, o ≠ .lst xs) → H b = some o → H' b = some o
theorem sameI_box {H H' : Hp} {p : Addr} {n : Nat} (b : BoxAt H p n) (s : SameX p H H') : SameI H H' := fun x o ho e => s x o (by
  rintro rfl
  obtain ⟨_, _, _, e2, _⟩ := b
  rw [e] at e2
  cases e2
  exact ho _ rfl) e
theorem IsQ.upI {H H' : Hp} {a : Addr} {q : Rat} (h : IsQ K H a q) (s : SameI H H') : IsQ K H' a q := h.imp fun _ z => s _ _ (fun _ z => nomatch z) z
theorem Pts.upI {H H' : Hp} {vs : List V} {ps : List (Rat × Rat)} (h : Pts K H vs ps) (s : SameI H H') : Pts K H' vs ps := by
  induction h with
  | nil => exact .nil
  | cons a b ih =>
    obtain ⟨t, x, y, e, h1, h2, h3⟩ := a
    exact .cons ⟨t, x, y, e, s _ _ (fun _ z => nomatch z) h1, h2.upI s, h3.upI s⟩ ih
theorem IsMap.upI {H H' : Hp} {m : Addr} {bs : List (Rat × Rat)} (h : IsMap K H m bs) (s : SameI H H') : IsMap K H' m bs := by
  obtain ⟨dx, t, ws, h1, h2, h3⟩ := h
  exact ⟨dx, t, ws, s _ _ (fun _ z => nomatch z) h1, s _ _ (fun _ z => nomatch z) h2, h3.upI s⟩
theorem Lst.upB {H H' : Hp} {D p : Addr} {vs : List V} {ps : List (Rat × Rat)} {n : Nat} (h : Lst H D vs ps) (b : BoxAt H p n) (s : SameX p H H') (hD : D ≠ p) : Lst H' D vs ps := ⟨s _ _ hD h.at_, h.lps.upT (sameT_box b s)⟩
theorem same_xx {p : Addr} {H H1 H2 : Hp} (s : Same H H1) (hp : H p = none) (x : SameX p H1 H2) : Same H H2 := fun b o e => x b o (ne_of_none e hp) (s b o e)
theorem same_sq {H H' : Hp} {a : Addr} {xs : List V} (e : Same H H') (h : SqL K H a xs) : SqL K H' a xs := by
  rcases h with (h | ⟨o, h⟩) | h
  · exact .inl (.inl (e _ _ h))
  · exact .inl (.inr ⟨o, e _ _ h⟩)
  · exact .inr h
/-! ### one cell's world -/
structure Ws where
  p : Addr
  S : Addr
  D1 : Addr
  D2 : Addr
  D3 : Addr
  w1 : List V
  w2 : List V
  w3 : List V
  p1 : List (Rat × Rat)
  p2 : List (Rat × Rat)
  p3 : List (Rat × Rat)
structure Wd (H0 : Hp) (W : Ws) (n : Nat) (Ht : Hp) : Prop where
  same : Same H0 Ht
  hp : H0 W.p = none
  box : BoxAt Ht W.p n
  nS : W.S ≠ W.p
  n1 : W.D1 ≠ W.p
  n2 : W.D2 ≠ W.p
  n3 : W.D3 ≠ W.p
  at_ : Ht W.S = some (.lst [.ref W.D1, .ref W.D2, .ref W.D3])
  l1 : Lst Ht W.D1 W.w1 W.p1
  l2 : Lst Ht W.D2 W.w2 W.p2
  l3 : Lst Ht W.D3 W.w3 W.p3
theorem Wd.up {H0 H1 H2 : Hp} {W : Ws} {n : Nat} (h : Wd H0 W n H1) (s : Same H1 H2) : Wd H0 W n H2 :=
  ⟨h.same.trans s, h.hp, h.box.up s, h.nS, h.n1, h.n2, h.n3, s _ _ h.at_, h.l1.up s, h.l2.up s, h.l3.up s⟩
theorem Wd.upX {H0 H1 H2 : Hp} {W : Ws} {n k : Nat} (h : Wd H0 W n H1) (s : SameX W.p H1 H2) (b : BoxAt H2 W.p k) : Wd H0 W k H2 :=
  ⟨same_xx h.same h.hp s, h.hp, b, h.nS, h.n1, h.n2, h.n3, s _ _ h.nS h.at_, h.l1.upB h.box s h.n1, h.l2.upB h.box s h.n2, h.l3.upB h.box s h.n3⟩
theorem Wd.mono {H0 H1 : Hp} {W : Ws} {n k : Nat} (h : Wd H0 W n H1) (l : n ≤ k) : Wd H0 W k H1 := { h with box := h.box.mono l }
/-! ### the maps of one cell -/
structure Mp (K : PySem.W.Frag) (W : Ws) (m1 m2 m3 : Addr) (Ht : Hp) : Prop where
  a : IsMap K Ht m1 (PL.bendF W.p1)
  b : IsMap K Ht m2 (PL.bendF W.p2)
  c : IsMap K Ht m3 (PL.bendF W.p3)
theorem Mp.up {H1 H2 : Hp} {W : Ws} {m1 m2 m3 : Addr} (h : Mp K W m1 m2 m3 H1) (s : Same H1 H2) : Mp K W m1 m2 m3 H2 := ⟨h.a.up s, h.b.up s, h.c.up s⟩
theorem Mp.upI {H1 H2 : Hp} {W : Ws} {m1 m2 m3 : Addr} (h : Mp K W m1 m2 m3 H1) (s : SameI H1 H2) : Mp K W m1 m2 m3 H2 := ⟨h.a.upI s, h.b.upI s, h.c.upI s⟩
def B3 (W : Ws) : Prop := Bas W.p1 ∧ Bas W.p2 ∧ Bas W.p3
abbrev fI (ps : List (Rat × Rat)) : Rat → Rat := PL.ledR (ps.map PL.swp)
/-- the composed maps: one behind the other, the inverse, all three -/
structure Mq (K : PySem.W.Frag) (W : Ws) (m12 mb m123 : Addr) (b12 bb b123 : List (Rat × Rat)) (Ht : Hp) : Prop where
  d : IsMap K Ht m12 b12
  e : IsMap K Ht mb bb
  f : IsMap K Ht m123 b123
theorem Mq.up {H1 H2 : Hp} {W : Ws} {m1 m2 m3 : Addr} {b1 b2 b3 : List (Rat × Rat)} (h : Mq K W m1 m2 m3 b1 b2 b3 H1) (s : Same H1 H2) : Mq K W m1 m2 m3 b1 b2 b3 H2 := ⟨h.d.up s, h.e.up s, h.f.up s⟩
theorem Mq.upI {H1 H2 : Hp} {W : Ws} {m1 m2 m3 : Addr} {b1 b2 b3 : List (Rat × Rat)} (h : Mq K W m1 m2 m3 b1 b2 b3 H1) (s : SameI H1 H2) : Mq K W m1 m2 m3 b1 b2 b3 H2 := ⟨h.d.upI s, h.e.upI s, h.f.upI s⟩
structure Fs (W : Ws) (b12 bb b123 : List (Rat × Rat)) : Prop where
  d : MF b12 (fun x => PL.ledR W.p2 (PL.ledR W.p1 x)) (fun x => fI W.p1 (fI W.p2 x)) 2
  e : MF bb (fI W.p1) (PL.ledR W.p1) 1
  f : MF b123 (fun x => PL.ledR W.p3 (PL.ledR W.p2 (PL.ledR W.p1 x))) (fun x => fI W.p1 (fI W.p2 (fI W.p3 x))) 3
/-- then, told by the maps -/
theorem then_of {H : Hp} {m m' : Addr} {bs cs : List (Rat × Rat)} {f fi g gi : Rat → Rat} {k l : Nat} {Q : VK} {E : XK} (im : IsMap K H m bs) (h : MF bs f fi k) (im' : IsMap K H m' cs) (j : MF cs g gi l) (hk : k + l ≤ 3)
    (q : ∀ r H' b, Same H H' → IsMap K H' r b → MF b (fun x => g (f x)) (fun x => fi (gi x)) (k + l) → Q (.ref r) H') : spThen K [.ref m, .ref m'] H Q E := by
  have l1 := h.len
  have l2 := j.len
  refine ⟨m, bs, .ref m', rfl, im, h.fine (by omega), .inl ⟨m', cs, rfl, im', j.fine (by omega), by omega, fun x hx => ?_, fun r H' s i => q r H' _ s i (h.thn j)⟩⟩
  obtain ⟨b1, b2, b3⟩ := h.at j x hx
  exact ⟨b1.mono (by omega), b2.mono (by omega), b3.mono (by omega)⟩
theorem inv_of {H : Hp} {m : Addr} {bs : List (Rat × Rat)} {f fi : Rat → Rat} {k : Nat} {Q : VK} {E : XK} (im : IsMap K H m bs) (h : MF bs f fi k) (hk : k ≤ 3)
    (q : ∀ r H' b, Same H H' → IsMap K H' r b → MF b fi f k → Q (.ref r) H') : spInv K [.ref m] H Q E := ⟨m, bs, rfl, im, h.fine hk, fun r H' s i => q r H' _ s i h.back⟩
end
end K09

set_option maxHeartbeats 4000000
namespace K09
open PySem PySem.Spec PyProof.Rows L2 AT
section
variable {P : Program} {w : World} {K : PySem.W.Frag} {mg : Str → Option Value} {base : Heap}
theorem ne_maps (T : Tx K mg base) {H : Hp} {m m' : Addr} {bs cs : List (Rat × Rat)} {Q : VK} {E : XK} (im : IsMap K H m bs) (im' : IsMap K H m' cs) (e : bs = cs) (q : Q (.bl false) H) : rNeO K (cM K) (spEqM K) E (.ref m) (.ref m') H Q := by
  obtain ⟨dx, t, ws, h1, h2, h3⟩ := id im
  obtain ⟨dx', t', ws', g1, g2, g3⟩ := id im'
  refine ⟨m, dx, _, rfl, h1, ⟨_, T.ins_TempoMap g1, .inl rfl⟩, m, .ref m', bs, rfl, im, .inl ⟨m', cs, rfl, im', _, rfl, ?_⟩⟩
  rw [decide_eq_true e]
  exact q
theorem MF.pl {bs cs : List (Rat × Rat)} {f fi g gi : Rat → Rat} {k l : Nat} (h : MF bs f fi k) (j : MF cs g gi l) (hk : k + l ≤ 3) : bs.length + cs.length < 500 ∧ ∀ x ∈ places bs cs, Bits 400 x ∧ Bits 400 (PL.ledR bs x) ∧ Bits 400 (PL.ledR cs (PL.ledR bs x)) := by
  have l1 := h.len
  have l2 := j.len
  refine ⟨by omega, fun x hx => ?_⟩
  obtain ⟨b1, b2, b3⟩ := h.at j x hx
  exact ⟨b1.mono (by omega), b2.mono (by omega), b3.mono (by omega)⟩
/-- all that stands in one cell's turn -/
structure AL (K : PySem.W.Frag) (H0 : Hp) (W : Ws) (m1 m2 m3 m12 mb m123 : Addr) (b12 bb b123 : List (Rat × Rat)) (n : Nat) (Ht : Hp) : Prop where
  wd : Wd H0 W n Ht
  mp : Mp K W m1 m2 m3 Ht
  mq : Mq K W m12 mb m123 b12 bb b123 Ht
theorem AL.up {H0 H1 H2 : Hp} {W : Ws} {m1 m2 m3 m12 mb m123 : Addr} {b12 bb b123 : List (Rat × Rat)} {n : Nat} (h : AL K H0 W m1 m2 m3 m12 mb m123 b12 bb b123 n H1) (s : Same H1 H2) : AL K H0 W m1 m2 m3 m12 mb m123 b12 bb b123 n H2 := ⟨h.wd.up s, h.mp.up s, h.mq.up s⟩
theorem AL.upX {H0 H1 H2 : Hp} {W : Ws} {m1 m2 m3 m12 mb m123 : Addr} {b12 bb b123 : List (Rat × Rat)} {n k : Nat} (h : AL K H0 W m1 m2 m3 m12 mb m123 b12 bb b123 n H1) (s : SameX W.p H1 H2) (b : BoxAt H2 W.p k) : AL K H0 W m1 m2 m3 m12 mb m123 b12 bb b123 k H2 :=
  ⟨h.wd.upX s b, h.mp.upI (sameI_box h.wd.box s), h.mq.upI (sameI_box h.wd.box s)⟩
theorem IsMap.ins {H : Hp} {m : Addr} {bs : List (Rat × Rat)} (h : IsMap K H m bs) : ∃ d t, H m = some (.ins (cM K) d [("own_points", .ref t)]) := by
  obtain ⟨d, t, _, h1, _⟩ := h
  exact ⟨d, t, h1⟩
def pk (W : Ws) (i : Nat) : List (Rat × Rat) := match i with | 0 => W.p1 | 1 => W.p2 | _ => W.p3
def spLaw (K : PySem.W.Frag) : Sp := fun vs H Q _ => ∃ (a : Addr) (ns : List Int), vs = [.ref a] ∧ SqL K H a (ns.map V.int) ∧ ∀ H', Q (.bl true) H'
theorem sc_law : FnScope ["_law_script", "_law_index", "_law_bag_here", "_law_turn", "_law_some", "_law_points_here", "_law_one", "_law_two", "_law_three", "_law_both", "_law_back", "_law_whole", "_law_beat", "_law_given_here", "_law_second", "_law_last"] ["_law_script"] (defScope s_law) := ⟨rfl, rfl, rfl, by decide +kernel, rfl, by decide +kernel, by decide +kernel⟩
theorem ok_law (T : Tx K mg base) : OkG P w K mg base 22 (d_law.loc K) ["_law_script"] (spLaw K) := by
  refine mk_okG (k := 21) T.f_law sc_law (fun _ _ _ _ _ _ us hl => match us, hl with | [_], _ => rfl) (fun vs H Q E h => ?_) (fun cdv A outer s H vs Q E hgd hr h => ?_)
  · obtain ⟨a, ns, rfl, _⟩ := h
    rfl
  · obtain ⟨a, ns, rfl, hS, k⟩ := h
    refine ⟨_, (pss_cons (ps_for (passes_of rfl) rfl (pi_range1 (by rfl) T.b_range (pa_cons (pe_callB (call_max2 rfl) (by rfl) T.b_max (by decide +kernel) (pa_cons pe_int (pa_cons (pe_callB (call_min2 rfl) (by rfl) T.b_min (by decide +kernel) (pa_cons pe_int (pa_cons (pe_callB call_len_seq (by rfl) T.b_len (by decide +kernel) (pa_cons (pv 0) pa_nil)) pa_nil))) pa_nil))) pa_nil)) (pg_name (i := 1) sc_law.nd rfl (Or.inl rfl)) (pss_cons (ps_set (i := 2) sc_law.nd rfl (Or.inr rfl) (ok_call (ok_w_bag T) (hr.mono (by decide)) rfl T.g_w_bag passL (pa_cons (ok_call (ok_w_cell T) (hr.mono (by decide)) rfl T.g_w_cell passL (pa_cons (pv 0) (pa_cons (pv 1) pa_nil))) pa_nil)))
      (pss_cons (ps_setLc (i := 4) (own := [("_law_turn", 3)]) (g := (gName 3)) (tt := tYes) (by rfl) sc_law.nd rfl rfl (sw_true rfl rfl rfl (by decide +kernel)) (pi_range1 (by rfl) T.b_range (pa_cons pe_int pa_nil)) (blkOk_by (own := [("_law_turn", 3)]) (N := ["_law_script", "_law_index", "_law_bag_here", "_law_turn", "_law_some", "_law_points_here", "_law_one", "_law_two", "_law_three", "_law_both", "_law_back", "_law_whole", "_law_beat", "_law_given_here", "_law_second", "_law_last"]) (sc := defScope s_law) (by decide +kernel)) (fun _ _ _ _ _ => (pg_name (i := 3) sc_law.nd rfl (Or.inl rfl))) (fun _ _ _ _ _ => pts_nil) (fun _ _ _ _ _ => (ok_call (ok_w_points T) (hr.mono (by decide)) rfl T.g_w_points passL (pa_cons (pv 2) (pa_cons pe_int pa_nil)))))
      (Evl.pss_cut (ps_asg (pe_lc (own := [("_law_points_here", 5)]) (g := (gName 5)) (tt := tYes) (by rfl) sc_law.nd (pi_list (pv 4)) (blkOk_by (own := [("_law_points_here", 5)]) (N := ["_law_script", "_law_index", "_law_bag_here", "_law_turn", "_law_some", "_law_points_here", "_law_one", "_law_two", "_law_three", "_law_both", "_law_back", "_law_whole", "_law_beat", "_law_given_here", "_law_second", "_law_last"]) (sc := defScope s_law) (by decide +kernel)) (fun _ _ _ _ _ => (pg_name (i := 5) sc_law.nd rfl (Or.inl rfl))) (fun _ _ _ _ _ => pts_nil) (fun _ _ _ _ _ => (ok_call (ok_w_made T) (hr.mono (by decide)) rfl T.g_w_made passL (pa_cons (pv 5) pa_nil)))) (pg_lst rfl (pgs_cons (pg_name (i := 6) sc_law.nd rfl (Or.inl rfl)) (pgs_cons (pg_name (i := 7) sc_law.nd rfl (Or.inl rfl)) (pgs_cons (pg_name (i := 8) sc_law.nd rfl (Or.inl rfl)) pgs_nil)))))
      (pss_cons (ps_par (by rfl) sc_law.nd (i := 9) (j := 10) rfl rfl (by decide) rfl rfl (pa_cons (ok_meth T.cls_TempoMap T.m_TempoMap_then (ok_TempoMap_then T) (hr.mono (by decide)) (passE rfl rfl rfl rfl) (pv 6) (pa_cons (pv 7) pa_nil)) (pa_cons (ok_meth0 T.cls_TempoMap T.m_TempoMap_inverse (ok_TempoMap_inverse T) (hr.mono (by decide)) (passE rfl rfl rfl rfl) (pv 6) ) pa_nil)) (by rfl))
      (Evl.pss_cut (ps_set (i := 11) sc_law.nd rfl (Or.inl rfl) (ok_meth T.cls_TempoMap T.m_TempoMap_then (ok_TempoMap_then T) (hr.mono (by decide)) (passE rfl rfl rfl rfl) (pv 9) (pa_cons (pv 8) pa_nil)))
      (Evl.pss_cut (ps_if (PW.pt (pw_or (pt_cmpR (op_neO T.eq_TempoMap (ok_TempoMap_eq_ T) (hr.mono (by decide)) passL) (pv 11) (ok_meth T.cls_TempoMap T.m_TempoMap_then (ok_TempoMap_then T) (hr.mono (by decide)) (passE rfl rfl rfl rfl) (pv 6) (pa_cons (ok_meth T.cls_TempoMap T.m_TempoMap_then (ok_TempoMap_then T) (hr.mono (by decide)) (passE rfl rfl rfl rfl) (pv 7) (pa_cons (pv 8) pa_nil)) pa_nil)) (nomark _)) (pw_or (pt_cmpR (op_neO T.eq_TempoMap (ok_TempoMap_eq_ T) (hr.mono (by decide)) passL) (ok_meth0 T.cls_TempoMap T.m_TempoMap_inverse (ok_TempoMap_inverse T) (hr.mono (by decide)) (passE rfl rfl rfl rfl) (pv 10) ) (pv 6) (nomark _)) (pw_or1 (pt_cmpR (op_neO T.eq_TempoMap (ok_TempoMap_eq_ T) (hr.mono (by decide)) passL) (ok_meth T.cls_TempoMap T.m_TempoMap_then (ok_TempoMap_then T) (hr.mono (by decide)) (passE rfl rfl rfl rfl) (pv 6) (pa_cons (pv 10) pa_nil)) (ok_makeD0 T.mkr_TempoMap (okd0_TempoMap_init_ T) (hr.mono (by decide)) rfl T.g_TempoMap (passE rfl rfl rfl rfl)) (nomark _)))))) (pss_one (ps_ret pe_bl)) pss_nil)
      (Evl.pss_cut (ps_if (PW.pt (pw_or (pt_cmpR (op_neO T.eq_TempoMap (ok_TempoMap_eq_ T) (hr.mono (by decide)) passL) (ok_meth0 T.cls_TempoMap T.m_TempoMap_inverse (ok_TempoMap_inverse T) (hr.mono (by decide)) (passE rfl rfl rfl rfl) (pv 9) ) (ok_meth T.cls_TempoMap T.m_TempoMap_then (ok_TempoMap_then T) (hr.mono (by decide)) (passE rfl rfl rfl rfl) (ok_meth0 T.cls_TempoMap T.m_TempoMap_inverse (ok_TempoMap_inverse T) (hr.mono (by decide)) (passE rfl rfl rfl rfl) (pv 7) ) (pa_cons (pv 10) pa_nil)) (nomark _)) (pw_or1 (pt_cmpR (op_neO T.eq_TempoMap (ok_TempoMap_eq_ T) (hr.mono (by decide)) passL) (ok_meth T.cls_TempoMap T.m_TempoMap_then (ok_TempoMap_then T) (hr.mono (by decide)) (passE rfl rfl rfl rfl) (pv 10) (pa_cons (pv 6) pa_nil)) (ok_makeD0 T.mkr_TempoMap (okd0_TempoMap_init_ T) (hr.mono (by decide)) rfl T.g_TempoMap (passE rfl rfl rfl rfl)) (nomark _))))) (pss_one (ps_ret pe_bl)) pss_nil)
      (Evl.pss_cut (ps_if (pt_not (pt_val (ok_call (ok_w_points_right T) (hr.mono (by decide)) rfl T.g_w_points_right passL (pa_cons (pv 6) (pa_cons (pv 7) (pa_cons (pv 9) (pa_cons (pv 10) (pa_cons (pv 4) pa_nil)))))))) (pss_one (ps_ret pe_bl)) pss_nil)
      (Evl.pss_cut (ps_for (passes_of rfl) rfl (pi_range1 (by rfl) T.b_range (pa_cons pe_int pa_nil)) (pg_name (i := 3) sc_law.nd rfl (Or.inl rfl)) (pss_cons (ps_set (i := 12) sc_law.nd rfl (Or.inl rfl) (ok_call (ok_w_fraction T) (hr.mono (by decide)) rfl T.g_w_fraction passL (pa_cons (pv 2) pa_nil)))
      (Evl.pss_cut (ps_if (PW.pt (pw_and (pt_cmpR op_lt (pv 3) pe_int (nomark _)) (pw_and1 (pt_cmpR (show OpR _ _ (rNeE K) from op_neE hr.units) (pe_ix ix_list (pv 4) pe_int (fun _ _ => rfl)) (pe_lst pa_nil) (nomark _))))) (pss_one (ps_set (i := 12) sc_law.nd rfl (Or.inl rfl) (pe_ix ix_tup (pe_ix ix_list (pe_ix ix_list (pv 4) pe_int (fun _ _ => rfl)) (ok_call (ok_w_take T) (hr.mono (by decide)) rfl T.g_w_take passL (pa_cons (pv 2) (pa_cons (pe_callB call_len_seq (by rfl) T.b_len (by decide +kernel) (pa_cons (pe_ix ix_list (pv 4) pe_int (fun _ _ => rfl)) pa_nil)) pa_nil))) (fun _ _ => rfl)) (pv 3) (fun _ _ => rfl)))) pss_nil)
      (pss_cons (ps_par (by rfl) sc_law.nd (i := 13) (j := 14) rfl rfl (by decide) rfl rfl (pa_cons (ok_make T.mkr_Amount (ok_Amount_init_ T) (hr.mono (by decide)) rfl T.g_Amount (passE rfl rfl rfl rfl) (pa_cons (pe_ix ix_tup (pv 12) pe_int (fun _ _ => rfl)) (pa_cons (pe_ix ix_tup (pv 12) pe_int (fun _ _ => rfl)) pa_nil))) (pa_cons (ok_call (okB_w_led T) (hr.mono (by decide)) rfl T.g_w_led passL (pa_cons (pe_ix ix_list (pv 4) pe_int (fun _ _ => rfl)) (pa_cons (pv 12) (pa_cons pe_int (pa_cons pe_int pa_nil))))) pa_nil)) (by rfl))
      (Evl.pss_cut (ps_set (i := 15) sc_law.nd rfl (Or.inl rfl) (ok_call (okB_w_led T) (hr.mono (by decide)) rfl T.g_w_led passL (pa_cons (pe_ix ix_list (pv 4) pe_int (fun _ _ => rfl)) (pa_cons (pv 14) (pa_cons pe_int (pa_cons pe_int pa_nil))))))
      (Evl.pss_cut (ps_if (pt_cmpR (op_neD hr.units) (ok_call (ok_w_pair T) (hr.mono (by decide)) rfl T.g_w_pair passL (pa_cons (ok_meth T.cls_TempoMap T.m_TempoMap_beat_of (ok_TempoMap_beat_of T) (hr.mono (by decide)) (passE rfl rfl rfl rfl) (pv 6) (pa_cons (ok_call (ok_w_given T) (hr.mono (by decide)) rfl T.g_w_given passL (pa_cons (pv 2) (pa_cons (pv 12) pa_nil))) pa_nil)) pa_nil)) (ok_call (okB_w_led T) (hr.mono (by decide)) rfl T.g_w_led passL (pa_cons (pe_ix ix_list (pv 4) pe_int (fun _ _ => rfl)) (pa_cons (pv 12) (pa_cons pe_int (pa_cons pe_int pa_nil))))) (nomark _)) (pss_one (ps_ret pe_bl)) pss_nil)
      (Evl.pss_cut (ps_if (PW.pt (pw_or (pt_cmpR (op_neD hr.units) (ok_call (ok_w_pair T) (hr.mono (by decide)) rfl T.g_w_pair passL (pa_cons (ok_meth T.cls_TempoMap T.m_TempoMap_beat_of (ok_TempoMap_beat_of T) (hr.mono (by decide)) (passE rfl rfl rfl rfl) (pv 6) (pa_cons (ok_callO T.co_TempoMap (ok_TempoMap_call_ T) (hr.mono (by decide)) (passE rfl rfl rfl rfl) (pv 6) (pa_cons (pv 13) pa_nil)) pa_nil)) pa_nil)) (pv 12) (nomark _)) (pw_or1 (pt_cmpR (op_neD hr.units) (ok_call (ok_w_pair T) (hr.mono (by decide)) rfl T.g_w_pair passL (pa_cons (ok_callO T.co_TempoMap (ok_TempoMap_call_ T) (hr.mono (by decide)) (passE rfl rfl rfl rfl) (pv 6) (pa_cons (ok_meth T.cls_TempoMap T.m_TempoMap_beat_of (ok_TempoMap_beat_of T) (hr.mono (by decide)) (passE rfl rfl rfl rfl) (pv 6) (pa_cons (pv 13) pa_nil)) pa_nil)) pa_nil)) (pv 12) (nomark _))))) (pss_one (ps_ret pe_bl)) pss_nil)
      (Evl.pss_cut (ps_if (PW.pt (pw_or (pt_cmpR (op_neD hr.units) (ok_call (ok_w_pair T) (hr.mono (by decide)) rfl T.g_w_pair passL (pa_cons (ok_callO T.co_TempoMap (ok_TempoMap_call_ T) (hr.mono (by decide)) (passE rfl rfl rfl rfl) (pv 9) (pa_cons (pv 13) pa_nil)) pa_nil)) (pv 15) (nomark _)) (pw_or1 (pt_cmpR (op_neD hr.units) (ok_call (ok_w_pair T) (hr.mono (by decide)) rfl T.g_w_pair passL (pa_cons (ok_callO T.co_TempoMap (ok_TempoMap_call_ T) (hr.mono (by decide)) (passE rfl rfl rfl rfl) (pv 11) (pa_cons (pv 13) pa_nil)) pa_nil)) (ok_call (okB_w_led T) (hr.mono (by decide)) rfl T.g_w_led passL (pa_cons (pe_ix ix_list (pv 4) pe_int (fun _ _ => rfl)) (pa_cons (pv 15) (pa_cons pe_int (pa_cons pe_int pa_nil))))) (nomark _))))) (pss_one (ps_ret pe_bl)) pss_nil)
      (pss_one (ps_if (PW.pt (pw_or (pt_cmpR (op_neO T.eq_Amount (ok_Amount_eq_ T) (hr.mono (by decide)) passL) (ok_callO T.co_TempoMap (ok_TempoMap_call_ T) (hr.mono (by decide)) (passE rfl rfl rfl rfl) (pv 10) (pa_cons (pv 13) pa_nil)) (ok_meth T.cls_TempoMap T.m_TempoMap_beat_of (ok_TempoMap_beat_of T) (hr.mono (by decide)) (passE rfl rfl rfl rfl) (pv 6) (pa_cons (pv 13) pa_nil)) (nomark _)) (pw_or1 (pt_cmpR (op_neO T.eq_Amount (ok_Amount_eq_ T) (hr.mono (by decide)) passL) (ok_meth T.cls_TempoMap T.m_TempoMap_beat_of (ok_TempoMap_beat_of T) (hr.mono (by decide)) (passE rfl rfl rfl rfl) (pv 10) (pa_cons (pv 13) pa_nil)) (ok_callO T.co_TempoMap (ok_TempoMap_call_ T) (hr.mono (by decide)) (passE rfl rfl rfl rfl) (pv 6) (pa_cons (pv 13) pa_nil)) (nomark _))))) (pss_one (ps_ret pe_bl)) pss_nil))))))))))
      (pss_one (ps_if (PW.pt (pw_or (pt_not (pt_val (ok_callG (ok_w_odd_right T) hgd (hr.mono (by decide)) rfl T.g_w_odd_right passL (pa_cons (pv 6) pa_nil)))) (pw_or1 (pt_cmpR (op_neO T.eq_TempoMap (ok_TempoMap_eq_ T) (hr.mono (by decide)) passL) (pv 6) (ok_call (ok_w_made T) (hr.mono (by decide)) rfl T.g_w_made passL (pa_cons (pe_ix ix_list (pv 4) pe_int (fun _ _ => rfl)) pa_nil)) (nomark _))))) (pss_one (ps_ret pe_bl)) pss_nil))))))))))))
      (pss_one (ps_ret pe_bl))), ?_⟩
    have hsz : sizeLine = 16777216 := sizeLine_eq
    have up : ∀ {q : Rat} {m k : Nat}, Bits m q → m ≤ k → Bits k q := fun h l => h.mono l
    refine ⟨_, rfl, a, _, rfl, .inl hS, _, _, rfl, _, _, rfl, ?_⟩
    have hm : ∃ m : Int, m = (if (if ((ns.map V.int).length : Int) < 6 then ((ns.map V.int).length : Int) else 6) > 2 then (if ((ns.map V.int).length : Int) < 6 then ((ns.map V.int).length : Int) else 6) else 2) ∧ 0 ≤ m ∧ m ≤ 6 := by
      refine ⟨_, rfl, ?_, ?_⟩ <;> split <;> split <;> omega
    obtain ⟨m, em, m0, m8⟩ := hm
    refine ⟨m, (by rw [em]), (by omega), (by omega), for_range (lo := 0) (n := m.toNat) (fun i σ' H' => ∃ (o1 o2 o3 o4 o6 o7 o8 o9 o10 o11 o12 o13 o14 o15 : Option V), σ' = ([some (.ref a), o1, o2, o3, o4, none, o6, o7, o8, o9, o10, o11, o12, o13, o14, o15] : L2.St) ∧ Same H H') ⟨_, _, _, _, _, _, _, _, _, _, _, _, _, _, rfl, Same.refl _⟩ ?_ ?_⟩
    · rintro i σ' H' hi ⟨o1, o2, o3, o4, o6, o7, o8, o9, o10, o11, o12, o13, o14, o15, rfl, s1⟩
      refine ⟨_, rfl, _, rfl, a, ns, i, (by rw [Int.zero_add]; rfl), same_sq s1 hS, (by omega), fun c => ?_⟩
      refine ⟨c, rfl, fun p H1 s2 hp b1 => ?_⟩
      -- the points
      refine ⟨3, rfl, by decide, by decide, fun S gS => ?_⟩
      have hSp : S ≠ p := box_ne b1 gS
      refine lc_range (lo := 0) (n := 3) (fun j Hj => SameX p H1 Hj ∧ BoxAt Hj p (500 * j) ∧ ∃ acc, Hj S = some (.lst acc) ∧ acc.length = j ∧ ∀ v ∈ acc, ∃ D ws ps, v = .ref D ∧ D ≠ p ∧ D ≠ S ∧ Lst Hj D ws ps ∧ Bas ps) ⟨SameX.new (SameX.refl _ _) gS, b1.new hSp, [], upd_same, rfl, (fun _ h => nomatch h)⟩ (fun j Hj hj hP => ?_) (fun H2 hP => ?_)
      · obtain ⟨xj, bj, acc, hacc, hal, hall⟩ := hP
        refine ⟨rfl, ?_⟩
        dsimp only [tYes]
        refine iteT ⟨_, rfl, p, _, 5, rfl, bj, (by omega), (by decide), fun D ws ps H3 x3 hD b3 hl3 lp hris hlen hfine => ?_⟩
        have hDp : D ≠ p := box_ne bj hD
        have hDS : D ≠ S := by rintro rfl; rw [hacc] at hD; cases hD
        have hacc3 := x3 _ _ hSp hacc
        refine ⟨acc, hacc3, (by omega), SameX.new (xj.trans x3) gS, (b3.new hSp).mono (by omega), acc ++ [.ref D], upd_same, (by simp [hal]), fun v hv => ?_⟩
        rcases List.mem_append.mp hv with hv | hv
        · obtain ⟨D', ws', ps', e, f1, f2, f3, f4⟩ := hall v hv
          refine ⟨D', ws', ps', e, f1, f2, ?_, f4⟩
          have l3 := f3.upB bj x3 f1
          exact ⟨by rw [upd_ne f2]; exact l3.at_, l3.lps.upT (sameT_set hacc3)⟩
        · exact ⟨D, ws, ps, List.mem_singleton.mp hv, hDp, hDS, ⟨by rw [upd_ne hDS]; exact hl3, lp.upT (sameT_set hacc3)⟩, hris, hfine, by omega⟩
      obtain ⟨x2, b2, acc, hacc, hal, hall⟩ := hP
      obtain ⟨v1, v2, v3, rfl⟩ : ∃ v1 v2 v3, acc = [v1, v2, v3] := by
        match acc, hal with
        | [v1, v2, v3], _ => exact ⟨v1, v2, v3, rfl⟩
      obtain ⟨D1, w1, p1, rfl, d1, e1, l1, B1⟩ := hall v1 (by simp)
      obtain ⟨D2, w2, p2, rfl, d2, e2, l2, B2⟩ := hall v2 (by simp)
      obtain ⟨D3, w3, p3, rfl, d3, e3, l3, B3⟩ := hall v3 (by simp)
      have wd : ∃ W : Ws, W = ⟨p, S, D1, D2, D3, w1, w2, w3, p1, p2, p3⟩ := ⟨_, rfl⟩
      obtain ⟨W, eW⟩ := wd
      have wd2 : Wd H' W 1500 H2 := by
        rw [eW]
        exact ⟨same_xx s2 hp x2, hp, b2.mono (by decide), hSp, d1, d2, d3, hacc, l1, l2, l3⟩
      have BW : K09.B3 W := by
        rw [eW]
        exact ⟨B1, B2, B3⟩
      have eS : S = W.S := by rw [eW]
      have ep : p = W.p := by rw [eW]
      have wS := wd2.at_
      rw [← eS] at wS
      clear hacc hal hall l1 l2 l3 d1 d2 d3 e1 e2 e3 B1 B2 B3 x2 b2
      -- the maps
      refine ⟨fun σ' Ht => ∃ m1 m2 m3, σ' = ([some (.ref a), some (.int (0 + (i : Int))), some (.ref p), o3, some (.ref S), none, some (.ref m1), some (.ref m2), some (.ref m3), o9, o10, o11, o12, o13, o14, o15] : L2.St) ∧ Wd H' W 1500 Ht ∧ Mp K W m1 m2 m3 Ht, ?_, ?_⟩
      · refine ⟨_, rfl, S, rfl, ⟨_, SqL.of wS⟩, fun M gM => ?_⟩
        refine lc_list (K := K) (a := S) (xs := [.ref W.D1, .ref W.D2, .ref W.D3]) (fun j Hj => Same H2 Hj ∧ ∃ acc, Hj M = some (.lst acc) ∧ acc.length = j ∧ ∀ (i : Nat) (v : V), acc[i]? = some v → ∃ m, v = .ref m ∧ IsMap K Hj m (PL.bendF (pk W i))) ⟨AT.Same.up gM, [], upd_same, rfl, (fun i v e => by simp at e)⟩ (fun j Hj _ h => SqL.of (h.1 _ _ wS)) (fun j x Hj hx hP => ?_) (fun H3 hP => ?_)
        · obtain ⟨sj, acc, hacc, hal, hall⟩ := hP
          have wj := wd2.up sj
          obtain ⟨D, ws, ex, lD, BD⟩ : ∃ D ws, x = .ref D ∧ Lst Hj D ws (pk W j) ∧ Bas (pk W j) := by
            match j, hx with
            | 0, hx => cases hx; exact ⟨_, _, rfl, wj.l1, BW.1⟩
            | 1, hx => cases hx; exact ⟨_, _, rfl, wj.l2, BW.2.1⟩
            | 2, hx => cases hx; exact ⟨_, _, rfl, wj.l3, BW.2.2⟩
            | j + 3, hx => simp at hx
          subst ex
          have hj : j < 3 := (List.getElem?_eq_some_iff.mp hx).1
          refine ⟨rfl, ?_⟩
          dsimp only [tYes]
          refine iteT ⟨_, rfl, D, ws, _, rfl, lD, BD.finL, fun r H4 s4 hr4 im => ?_⟩
          have hacc4 := s4 _ _ hacc
          have nset : SameI H4 (upd H4 M (.lst (acc ++ [.ref r]))) := fun b o ho e => by
            rw [upd_ne (by rintro rfl; rw [hacc4] at e; cases e; exact ho _ rfl)]
            exact e
          refine ⟨acc, hacc4, (by omega), AT.Same.new (sj.trans s4) gM, acc ++ [.ref r], upd_same, (by simp [hal]), fun i v hv => ?_⟩
          by_cases c : i < acc.length
          · rw [List.getElem?_append_left c] at hv
            obtain ⟨m, e, im2⟩ := hall i v hv
            exact ⟨m, e, (im2.up s4).upI nset⟩
          · rw [List.getElem?_append_right (by omega)] at hv
            have hi0 : i - acc.length = 0 := by
              have := (List.getElem?_eq_some_iff.mp hv).1
              simp at this
              omega
            rw [hi0] at hv
            have ei : i = j := by omega
            subst ei
            exact ⟨r, by simpa using hv.symm, im.upI nset⟩
        · obtain ⟨s3, acc, hacc, hal, hall⟩ := hP
          obtain ⟨v1, v2, v3, rfl⟩ : ∃ v1 v2 v3, acc = [v1, v2, v3] := by
            match acc, hal with
            | [v1, v2, v3], _ => exact ⟨v1, v2, v3, rfl⟩
          obtain ⟨m1, rfl, i1⟩ := hall 0 v1 rfl
          obtain ⟨m2, rfl, i2⟩ := hall 1 v2 rfl
          obtain ⟨m3, rfl, i3⟩ := hall 2 v3 rfl
          exact ⟨M, _, rfl, SqL.of hacc, rfl, _, _, rfl, _, _, rfl, _, _, rfl, rfl, m1, m2, m3, rfl, wd2.up s3, i1, i2, i3⟩
      rintro σ3 H3 ⟨m1, m2, m3, rfl, wd3, mp3⟩
      have M1 := BW.1.mf
      have M2 := BW.2.1.mf
      have M3 := BW.2.2.mf
      clear wd2 wS
      -- both and back
      obtain ⟨q1, q2, q3, q4, q5, q6⟩ := id mp3.a
      refine ⟨_, rfl, m1, q1, _, rfl, q4, rfl, _, rfl, m1, _, .ref m2, rfl, mp3.a, M1.fine (by decide), .inl ⟨m2, _, rfl, mp3.b, M2.fine (by decide), (M1.pl M2 (by decide)).1, (M1.pl M2 (by decide)).2, fun m12 H4 s4 i12 => ?_⟩⟩
      have F12 := M1.thn M2
      generalize PL.bendF (PL.pts _ _) = b12 at i12 F12
      obtain ⟨q1', q2', q3', q4', q5', q6'⟩ := id (mp3.a.up s4)
      refine ⟨_, rfl, m1, q1', _, rfl, q4', rfl, m1, _, rfl, mp3.a.up s4, M1.fine (by decide), fun mb H5 s5 ib => ?_⟩
      have Fb := M1.back
      generalize PL.bendF (List.map PL.swp _) = bb at ib Fb
      refine ⟨_, _, rfl, ?_⟩
      have mp5 := mp3.up (s4.trans s5)
      have wd5 := wd3.up (s4.trans s5)
      have i125 := i12.up s5
      refine ⟨fun σ' Ht => ∃ m123 b123, σ' = ([some (.ref a), some (.int (0 + (i : Int))), some (.ref p), o3, some (.ref S), none, some (.ref m1), some (.ref m2), some (.ref m3), some (.ref m12), some (.ref mb), some (.ref m123), o12, o13, o14, o15] : L2.St) ∧ AL K H' W m1 m2 m3 m12 mb m123 b12 bb b123 1500 Ht ∧ Fs W b12 bb b123, ?_, ?_⟩
      · obtain ⟨d, t, e⟩ := i125.ins
        refine ⟨_, rfl, m12, d, _, rfl, e, rfl, _, rfl, m12, _, .ref m3, rfl, i125, F12.fine (by decide), .inl ⟨m3, _, rfl, mp5.c, M3.fine (by decide), (F12.pl M3 (by decide)).1, (F12.pl M3 (by decide)).2, fun m123 H6 s6 i123 => ?_⟩⟩
        exact ⟨m123, _, rfl, ⟨wd5.up s6, mp5.up s6, i125.up s6, ib.up s6, i123⟩, F12, Fb, F12.thn M3⟩
      rintro σ6 H6 ⟨m123, b123, rfl, al6, fs⟩
      clear mp5 wd5 i125 i12 ib F12 Fb mp3 wd3
      have M23 := M2.thn M3
      have M1_23 := M1.thn M23
      have Mbb := fs.e.back
      have M1b := M1.thn fs.e
      have Mb1 := fs.e.thn M1
      have M12i := fs.d.back
      have M2i := M2.back
      have M2ib := M2i.thn fs.e
      refine ⟨fun σ' Ht => σ' = ([some (.ref a), some (.int (0 + (i : Int))), some (.ref p), o3, some (.ref S), none, some (.ref m1), some (.ref m2), some (.ref m3), some (.ref m12), some (.ref mb), some (.ref m123), o12, o13, o14, o15] : L2.St) ∧ AL K H' W m1 m2 m3 m12 mb m123 b12 bb b123 1500 Ht, ?_, ?_⟩
      · obtain ⟨da, ta, ea⟩ := al6.mp.a.ins
        obtain ⟨db, tb, eb⟩ := al6.mp.b.ins
        refine ⟨_, rfl, _, rfl, m1, da, _, rfl, ea, rfl, _, rfl, m2, db, _, rfl, eb, rfl, _, rfl, m2, _, .ref m3, rfl, al6.mp.b, M2.fine (by decide), .inl ⟨m3, _, rfl, al6.mp.c, M3.fine (by decide), (M2.pl M3 (by decide)).1, (M2.pl M3 (by decide)).2, fun m23 H7 s7 i23 => ?_⟩⟩
        refine ⟨m1, _, .ref m23, rfl, (al6.up s7).mp.a, M1.fine (by decide), .inl ⟨m23, _, rfl, i23, M23.fine (by decide), (M1.pl M23 (by decide)).1, (M1.pl M23 (by decide)).2, fun r H8 s8 ir => ?_⟩⟩
        have a8 := (al6.up s7).up s8
        obtain ⟨dw, tw, ew⟩ := a8.mq.f.ins
        obtain ⟨dr, tr, er⟩ := ir.ins
        refine ⟨m123, dw, _, rfl, ew, ⟨_, T.ins_TempoMap er, .inl rfl⟩, m123, .ref r, _, rfl, a8.mq.f, .inl ⟨r, _, rfl, ir, _, rfl, ?_⟩⟩
        rw [decide_eq_true (fs.f.eq M1_23 fun _ => rfl)]
        refine ⟨_, rfl, iteF ?_⟩
        -- back and forth
        obtain ⟨dB, tB, eB⟩ := a8.mq.e.ins
        refine ⟨_, rfl, mb, dB, _, rfl, eB, rfl, mb, _, rfl, a8.mq.e, fs.e.fine (by decide), fun r2 H9 s9 ir2 => ?_⟩
        have a9 := a8.up s9
        obtain ⟨dr2, tr2, er2⟩ := ir2.ins
        obtain ⟨da9, ta9, ea9⟩ := a9.mp.a.ins
        refine ⟨_, rfl, r2, dr2, _, rfl, er2, ⟨_, T.ins_TempoMap ea9, .inl rfl⟩, r2, .ref m1, _, rfl, ir2, .inl ⟨m1, _, rfl, a9.mp.a, _, rfl, ?_⟩⟩
        rw [decide_eq_true (Mbb.eq M1 fun _ => rfl)]
        refine ⟨_, rfl, iteF ?_⟩
        obtain ⟨dB9, tB9, eB9⟩ := a9.mq.e.ins
        refine ⟨_, rfl, m1, da9, _, rfl, ea9, rfl, _, rfl, m1, _, .ref mb, rfl, a9.mp.a, M1.fine (by decide), .inl ⟨mb, _, rfl, a9.mq.e, fs.e.fine (by decide), (M1.pl fs.e (by decide)).1, (M1.pl fs.e (by decide)).2, fun r3 HA sA ir3 => ?_⟩⟩
        have aA := a9.up sA
        refine fun z dz gz gdz hnz => ⟨z, dz, rfl, upd_same, fun HB keep iz => ⟨rfl, ?_⟩⟩
        have sB : Same HA HB := fun b o e => keep b o (ne_of_none e gz) (AT.Same.new (AT.Same.up gdz) gz b o e)
        have iz : IsMap K HB z (PL.bendF []) := by rw [← bend_full (ps := []) trivial]; exact iz
        have aB := aA.up sB
        obtain ⟨dr3, tr3, er3⟩ := (ir3.up sB).ins
        obtain ⟨dz', tz, ez⟩ := iz.ins
        refine ⟨r3, dr3, _, rfl, er3, ⟨_, T.ins_TempoMap ez, .inl rfl⟩, r3, .ref z, _, rfl, ir3.up sB, .inl ⟨z, _, rfl, iz, _, rfl, ?_⟩⟩
        rw [decide_eq_true (M1b.eq MF.one fun x => (M1.inv x).1)]
        exact ⟨_, rfl, iteF ⟨rfl, aB⟩⟩
      rintro σ7 H7 ⟨rfl, al7⟩
      clear al6
      refine ⟨fun σ' Ht => σ' = ([some (.ref a), some (.int (0 + (i : Int))), some (.ref p), o3, some (.ref S), none, some (.ref m1), some (.ref m2), some (.ref m3), some (.ref m12), some (.ref mb), some (.ref m123), o12, o13, o14, o15] : L2.St) ∧ AL K H' W m1 m2 m3 m12 mb m123 b12 bb b123 1500 Ht, ?_, ?_⟩
      · obtain ⟨dc, tc, ec⟩ := al7.mq.d.ins
        refine ⟨_, rfl, m12, dc, _, rfl, ec, rfl, m12, _, rfl, al7.mq.d, fs.d.fine (by decide), fun r1 H8 s8 ir1 => ?_⟩
        have a8 := al7.up s8
        obtain ⟨db, tb, eb⟩ := a8.mp.b.ins
        refine ⟨_, rfl, m2, db, _, rfl, eb, rfl, m2, _, rfl, a8.mp.b, M2.fine (by decide), fun r2 H9 s9 ir2 => ?_⟩
        have a9 := a8.up s9
        obtain ⟨d2, t2, e2⟩ := ir2.ins
        refine ⟨r2, d2, _, rfl, e2, rfl, _, rfl, r2, _, .ref mb, rfl, ir2, M2i.fine (by decide), .inl ⟨mb, _, rfl, a9.mq.e, fs.e.fine (by decide), (M2i.pl fs.e (by decide)).1, (M2i.pl fs.e (by decide)).2, fun r3 HA sA ir3 => ?_⟩⟩
        have aA := a9.up sA
        have ir1A := (ir1.up s9).up sA
        obtain ⟨d1, t1, e1⟩ := ir1A.ins
        obtain ⟨d3, t3, e3⟩ := ir3.ins
        refine ⟨r1, d1, _, rfl, e1, ⟨_, T.ins_TempoMap e3, .inl rfl⟩, r1, .ref r3, _, rfl, ir1A, .inl ⟨r3, _, rfl, ir3, _, rfl, ?_⟩⟩
        rw [decide_eq_true (M12i.eq M2ib fun _ => rfl)]
        refine ⟨_, rfl, iteF ?_⟩
        obtain ⟨dB, tB, eB⟩ := aA.mq.e.ins
        refine ⟨_, rfl, mb, dB, _, rfl, eB, rfl, _, rfl, mb, _, .ref m1, rfl, aA.mq.e, fs.e.fine (by decide), .inl ⟨m1, _, rfl, aA.mp.a, M1.fine (by decide), (fs.e.pl M1 (by decide)).1, (fs.e.pl M1 (by decide)).2, fun r4 HB sB ir4 => ?_⟩⟩
        have aB := aA.up sB
        refine fun z dz gz gdz hnz => ⟨z, dz, rfl, upd_same, fun HC keep iz => ⟨rfl, ?_⟩⟩
        have sC : Same HB HC := fun b o e => keep b o (ne_of_none e gz) (AT.Same.new (AT.Same.up gdz) gz b o e)
        have iz : IsMap K HC z (PL.bendF []) := by rw [← bend_full (ps := []) trivial]; exact iz
        have aC := aB.up sC
        obtain ⟨d4, t4, e4⟩ := (ir4.up sC).ins
        obtain ⟨dz', tz, ez⟩ := iz.ins
        refine ⟨r4, d4, _, rfl, e4, ⟨_, T.ins_TempoMap ez, .inl rfl⟩, r4, .ref z, _, rfl, ir4.up sC, .inl ⟨z, _, rfl, iz, _, rfl, ?_⟩⟩
        rw [decide_eq_true (Mb1.eq MF.one fun x => (M1.inv x).2)]
        exact ⟨_, rfl, iteF ⟨rfl, aC⟩⟩
      rintro σ8 H8 ⟨rfl, al8⟩
      clear al7
      -- the points
      refine ⟨fun σ' Ht => σ' = ([some (.ref a), some (.int (0 + (i : Int))), some (.ref p), o3, some (.ref S), none, some (.ref m1), some (.ref m2), some (.ref m3), some (.ref m12), some (.ref mb), some (.ref m123), o12, o13, o14, o15] : L2.St) ∧ AL K H' W m1 m2 m3 m12 mb m123 b12 bb b123 1500 Ht, ?_, ?_⟩
      · have hS8 := al8.wd.at_
        rw [← eS] at hS8
        exact ⟨_, rfl, _, rfl, _, rfl, _, rfl, _, rfl, m1, m2, m12, mb, S, W.D1, W.w1, W.p1, W.D2, W.w2, W.p2, W.D3, b12, bb, rfl, hS8, al8.wd.l1, al8.wd.l2, BW.1, BW.2.1, al8.mp.a, al8.mq.d, al8.mq.e, fs.d, fs.e, fun H9 s9 => ⟨_, rfl, iteF ⟨rfl, al8.up s9⟩⟩⟩
      rintro σ9 H9 ⟨rfl, al9⟩
      clear al8
      subst ep eS
      have N1 : W.p1.length ≤ 10 := BW.1.2.2
      refine ⟨fun σ' Ht => ∃ (o3 o12 o13 o14 o15 : Option V), σ' = ([some (.ref a), some (.int (0 + (i : Int))), some (.ref W.p), o3, some (.ref W.S), none, some (.ref m1), some (.ref m2), some (.ref m3), some (.ref m12), some (.ref mb), some (.ref m123), o12, o13, o14, o15] : L2.St) ∧ AL K H' W m1 m2 m3 m12 mb m123 b12 bb b123 1600 Ht, ?_, ?_⟩
      · refine ⟨6, rfl, by decide, by decide, for_range (lo := 0) (n := 6) (fun j σ' Ht => ∃ (o3 o12 o13 o14 o15 : Option V), σ' = ([some (.ref a), some (.int (0 + (i : Int))), some (.ref W.p), o3, some (.ref W.S), none, some (.ref m1), some (.ref m2), some (.ref m3), some (.ref m12), some (.ref mb), some (.ref m123), o12, o13, o14, o15] : L2.St) ∧ AL K H' W m1 m2 m3 m12 mb m123 b12 bb b123 (1500 + 10 * j) Ht) ⟨_, _, _, _, _, rfl, al9⟩ ?_ ?_⟩
        · rintro j σ' HA hj ⟨o3, o12, o13, o14, o15, rfl, alA⟩
          refine ⟨_, rfl, W.p, _, rfl, alA.wd.box, (by omega), fun v q HB xB bB pq fq => ?_⟩
          have alB := alA.upX xB bB
          refine ⟨fun σ' Ht => ∃ (v : V) (x : Rat), σ' = ([some (.ref a), some (.int (0 + (i : Int))), some (.ref W.p), some (.int (0 + (j : Int))), some (.ref W.S), none, some (.ref m1), some (.ref m2), some (.ref m3), some (.ref m12), some (.ref mb), some (.ref m123), some v, o13, o14, o15] : L2.St) ∧ AL K H' W m1 m2 m3 m12 mb m123 b12 bb b123 (1505 + 10 * j) Ht ∧ PQ Ht v x ∧ Fine 20000 x, ?_, ?_⟩
          · refine ⟨_, rfl, _, _, rfl, rfl, _, rfl, ?_⟩
            have stay : ∃ (v' : V) (x : Rat), ([some (.ref a), some (.int (0 + (i : Int))), some (.ref W.p), some (.int (0 + (j : Int))), some (.ref W.S), none, some (.ref m1), some (.ref m2), some (.ref m3), some (.ref m12), some (.ref mb), some (.ref m123), some v, o13, o14, o15] : L2.St) = ([some (.ref a), some (.int (0 + (i : Int))), some (.ref W.p), some (.int (0 + (j : Int))), some (.ref W.S), none, some (.ref m1), some (.ref m2), some (.ref m3), some (.ref m12), some (.ref mb), some (.ref m123), some v', o13, o14, o15] : L2.St) ∧ AL K H' W m1 m2 m3 m12 mb m123 b12 bb b123 (1505 + 10 * j) HB ∧ PQ HB v' x ∧ Fine 20000 x := ⟨v, q, rfl, { alB with wd := alB.wd.mono (by omega) }, pq, fq.mono (by decide)⟩
            refine ite2 (fun c => ?_) (fun c => iteF stay)
            have c : (0 + (j : Int)) < 2 := of_decide_eq_true c
            refine ⟨_, rfl, W.S, _, 0, _, rfl, rfl, SqL.of alB.wd.at_, rfl, Nat.zero_le _, fun z gz => ?_⟩
            have sz := AT.Same.up (o := .lst []) gz
            have alZ := alB.up sz
            refine ⟨W.w1, ⟨W.D1, z, rfl, rfl, SqL.of alZ.wd.l1.at_, SqL.of upd_same⟩, _, rfl, ?_⟩
            have hl1 := alB.wd.l1.lps.length
            cases hw : W.w1.isEmpty with
            | true => exact iteF ⟨v, q, rfl, { alZ with wd := alZ.wd.mono (by omega) }, pq.up sz, fq.mono (by decide)⟩
            | false =>
              have hne : 0 < W.w1.length := by
                cases e : W.w1 with
                | nil => rw [e] at hw; cases hw
                | cons _ _ => simp
              refine iteT ?_
              refine ⟨_, rfl, W.S, _, 0, _, rfl, rfl, SqL.of alZ.wd.at_, rfl, _, rfl, _, rfl, W.S, _, 0, _, rfl, rfl, SqL.of alZ.wd.at_, rfl, W.D1, _, rfl, .inl (SqL.of alZ.wd.l1.at_), W.p, _, _, rfl, alZ.wd.box, (by omega), (by omega), big1 (by omega), fun r HD c1 c2 xD bD => ?_⟩
              have alD := alZ.upX xD bD
              obtain ⟨jr, rfl⟩ := Int.eq_ofNat_of_zero_le c1
              have hjr : jr < W.w1.length := by omega
              have hvr := List.getElem?_eq_getElem hjr
              obtain ⟨pt, ept, t, vx, vy, evr, ht, hvx, hvy⟩ := alD.wd.l1.lps.at hvr
              have fpt := BW.1.2.1 pt (List.mem_of_getElem? ept)
              obtain ⟨vz, xz, ez, hz, fz⟩ : ∃ vz xz, atI [vx, vy] (0 + (j : Int)) = some vz ∧ PQ HD vz xz ∧ Fine 20000 xz := by
                obtain rfl | rfl : j = 0 ∨ j = 1 := by omega
                · exact ⟨vx, pt.1, rfl, hvx, fpt.1⟩
                · exact ⟨vy, pt.2, rfl, hvy, fpt.2⟩
              exact ⟨W.D1, _, _, _, rfl, rfl, SqL.of alD.wd.l1.at_, (by rw [atI_nat hvr, evr]), _, rfl, t, _, _, vz, rfl, rfl, SqT.of ht, ez, vz, xz, rfl, { alD with wd := alD.wd.mono (by omega) }, hz, fz⟩
          rintro σB HC ⟨v', x, rfl, alC, pqC, fx⟩
          have bx : Bits 60 x := fx.bits (by decide)
          obtain ⟨ax, rfl, hax⟩ := id pqC
          have big8 : ((x.den : Int)).natAbs < 2 ^ 8000 := Nat.lt_trans (den_bits bx) (Nat.pow_lt_pow_right (by decide) (by decide))
          refine ⟨_, rfl, ax, _, 0, _, rfl, rfl, SqT.of hax, rfl, _, rfl, ax, _, 1, _, rfl, rfl, SqT.of hax, rfl, fun u e gu ge _ => ⟨u, e, _, _, rfl, upd_same, .int _, .int _, .inl ⟨_, _, rfl, rfl, den_ne x, big8, rfl, ?_⟩⟩⟩
          have sM := made_same (o1 := .ins (cA K) e []) (o2 := .ins (cA K) e (amtQ (Rat.divInt x.num x.den))) gu ge
          have qu : IsQ K (upd (upd (upd HC e (.own u)) u (.ins (cA K) e [])) u (.ins (cA K) e (amtQ (Rat.divInt x.num x.den)))) u x := ⟨e, upd_same.trans (congrArg (fun z => some (HO.ins (cA K) e (amtQ z))) (q_self x))⟩
          have alM := alC.up sM
          have F1 := BW.1.finL
          have F2 := BW.2.1.finL
          have F3 := BW.2.2.finL
          have bf : Bits 158 (PL.ledR W.p1 x) := M1.g1 60 x bx
          have bg : Bits 256 (PL.ledR W.p2 (PL.ledR W.p1 x)) := M2.g1 158 _ bf
          refine ⟨_, rfl, W.S, _, 0, _, rfl, rfl, SqL.of alM.wd.at_, rfl, _, rfl, W.D1, W.w1, W.p1, .ref ax, x, false, rfl, lst_f alM.wd.l1, F1, pqC.up sM, up bx (by decide), fun vs HE sE pqs => ⟨_, _, rfl, ?_⟩⟩
          have alE := alM.up sE
          refine ⟨fun σ' Ht => ∃ vl, σ' = ([some (.ref a), some (.int (0 + (i : Int))), some (.ref W.p), some (.int (0 + (j : Int))), some (.ref W.S), none, some (.ref m1), some (.ref m2), some (.ref m3), some (.ref m12), some (.ref mb), some (.ref m123), some (.ref ax), some (.ref u), some vs, some vl] : L2.St) ∧ AL K H' W m1 m2 m3 m12 mb m123 b12 bb b123 (1505 + 10 * j) Ht ∧ PQ Ht (.ref ax) x ∧ IsQ K Ht u x ∧ PQ Ht vl (PL.ledR W.p2 (PL.ledR W.p1 x)), ?_, ?_⟩
          · exact ⟨_, rfl, W.S, _, 1, _, rfl, rfl, SqL.of alE.wd.at_, rfl, _, rfl, W.D2, W.w2, W.p2, vs, _, false, rfl, lst_f alE.wd.l2, F2, pqs, up bf (by decide), fun vl HF sF pql => ⟨vl, rfl, alE.up sF, ((pqC.up sM).up sE).up sF, (qu.up sE).up sF, pql⟩⟩
          rintro σF HF ⟨vl, rfl, alF, pqF, quF, pqlF⟩
          clear alC alM alE pqC qu
          have ev1 : PL.ledR (PL.bendF W.p1) x = PL.ledR W.p1 x := M1.cm.val x
          have ei1 : PL.ledR ((PL.bendF W.p1).map PL.swp) x = fI W.p1 x := M1.cm.swp_val M1.inv x
          have bi : Bits 158 (fI W.p1 x) := M1.g2 60 x bx
          refine ⟨fun σ' Ht => σ' = ([some (.ref a), some (.int (0 + (i : Int))), some (.ref W.p), some (.int (0 + (j : Int))), some (.ref W.S), none, some (.ref m1), some (.ref m2), some (.ref m3), some (.ref m12), some (.ref mb), some (.ref m123), some (.ref ax), some (.ref u), some vs, some vl] : L2.St) ∧ AL K H' W m1 m2 m3 m12 mb m123 b12 bb b123 (1510 + 10 * j) Ht ∧ PQ Ht (.ref ax) x ∧ IsQ K Ht u x ∧ PQ Ht vl (PL.ledR W.p2 (PL.ledR W.p1 x)), ?_, ?_⟩
          · obtain ⟨d, t, e⟩ := alF.mp.a.ins
            refine ⟨_, rfl, m1, d, _, rfl, e, rfl, _, rfl, _, rfl, W.p, _, .ref ax, x, rfl, alF.wd.box, (by omega), pqF, up bx (by decide), fun g HG xG bG qv _ => ?_⟩
            have alG := alF.upX xG bG
            have pqG := pqF.upX alF.wd.box xG
            have quG := quF.upI (sameI_box alF.wd.box xG)
            have plG := pqlF.upX alF.wd.box xG
            refine ⟨m1, _, g, rfl, alG.mp.a, M1.fine (by decide), qv.any, .inl ⟨x, qv, up bx (by decide), fun r HI sI ir => ?_⟩⟩
            refine ⟨r, _, rfl, ir, fun vp HJ sJ pqp => ?_⟩
            have sIJ := sI.trans sJ
            have alJ := alG.up sIJ
            refine ⟨_, rfl, W.S, _, 0, _, rfl, rfl, SqL.of alJ.wd.at_, rfl, _, rfl, W.D1, W.w1, W.p1.map PL.swp, .ref ax, x, true, rfl, lst_t alJ.wd.l1, F1.swp, pqG.up sIJ, up bx (by decide), fun vq HK sK pqq => ?_⟩
            refine ⟨dq _, dq _, (pqp.up sK).dp, pqq.dp, rfl, rfl, _, rfl, ?_⟩
            rw [eqv_dq, decide_eq_true ei1]
            have sIK := sIJ.trans sK
            exact iteF ⟨rfl, { (alG.up sIK) with wd := (alG.up sIK).wd.mono (by omega) }, pqG.up sIK, quG.up sIK, plG.up sIK⟩
          rintro σG HG ⟨rfl, alG, pqG, quG, plG⟩
          clear alF pqF quF pqlF
          refine ⟨fun σ' Ht => σ' = ([some (.ref a), some (.int (0 + (i : Int))), some (.ref W.p), some (.int (0 + (j : Int))), some (.ref W.S), none, some (.ref m1), some (.ref m2), some (.ref m3), some (.ref m12), some (.ref mb), some (.ref m123), some (.ref ax), some (.ref u), some vs, some vl] : L2.St) ∧ AL K H' W m1 m2 m3 m12 mb m123 b12 bb b123 (1510 + 10 * j) Ht ∧ PQ Ht (.ref ax) x ∧ IsQ K Ht u x ∧ PQ Ht vl (PL.ledR W.p2 (PL.ledR W.p1 x)), ?_, ?_⟩
          · obtain ⟨d, t, e⟩ := alG.mp.a.ins
            refine ⟨_, rfl, m1, d, _, rfl, e, rfl, _, rfl, m1, rfl, _, rfl, .inr ⟨_, _, e⟩, m1, _, .ref u, rfl, alG.mp.a, M1.fine (by decide), .amt quG, .inl ⟨x, .obj quG, up bx (by decide), fun r1 HI sI ir1 => ?_⟩⟩
            have b1 : Bits 400 (PL.ledR (PL.bendF W.p1) x) := by rw [ev1]; exact up bf (by decide)
            refine ⟨m1, _, .ref r1, rfl, (alG.up sI).mp.a, M1.fine (by decide), .amt ir1, .inl ⟨_, .obj ir1, b1, fun r2 HJ sJ ir2 => ?_⟩⟩
            refine ⟨r2, _, rfl, ir2, fun vp HK sK pqp => ?_⟩
            have sIK := (sI.trans sJ).trans sK
            refine ⟨_, rfl, dq _, dq _, pqp.dp, (pqG.up sIK).dp, rfl, rfl, _, rfl, ?_⟩
            have ee1 : PL.ledR ((PL.bendF W.p1).map PL.swp) (PL.ledR (PL.bendF W.p1) x) = x := by rw [ev1, M1.cm.swp_val M1.inv, (M1.inv x).1]
            rw [eqv_dq, decide_eq_true ee1]
            refine iteF ?_
            have alK := alG.up sIK
            have quK := quG.up sIK
            obtain ⟨d', t', e'⟩ := alK.mp.a.ins
            refine ⟨_, rfl, m1, rfl, _, rfl, m1, d', _, rfl, e', rfl, _, rfl, m1, _, .ref u, rfl, alK.mp.a, M1.fine (by decide), .amt quK, .inl ⟨x, .obj quK, up bx (by decide), fun r3 HL sL ir3 => ?_⟩⟩
            have b3 : Bits 400 (PL.ledR ((PL.bendF W.p1).map PL.swp) x) := by rw [ei1]; exact up bi (by decide)
            have alL := alK.up sL
            obtain ⟨d2, t2, e2⟩ := alL.mp.a.ins
            refine ⟨.inr ⟨_, _, e2⟩, m1, _, .ref r3, rfl, alL.mp.a, M1.fine (by decide), .amt ir3, .inl ⟨_, .obj ir3, b3, fun r4 HM sM ir4 => ?_⟩⟩
            refine ⟨r4, _, rfl, ir4, fun vq HN sN pqq => ?_⟩
            have sLN := (sL.trans sM).trans sN
            refine ⟨_, rfl, dq _, dq _, pqq.dp, ((pqG.up sIK).up sLN).dp, rfl, rfl, _, rfl, ?_⟩
            have ee2 : PL.ledR (PL.bendF W.p1) (PL.ledR ((PL.bendF W.p1).map PL.swp) x) = x := by rw [ei1, M1.cm.val, (M1.inv x).2]
            rw [eqv_dq, decide_eq_true ee2]
            exact iteF ⟨rfl, alK.up sLN, (pqG.up sIK).up sLN, quK.up sLN, (plG.up sIK).up sLN⟩
          rintro σH HH ⟨rfl, alH, pqH, quH, plH⟩
          clear alG pqG quG plG
          refine ⟨fun σ' Ht => σ' = ([some (.ref a), some (.int (0 + (i : Int))), some (.ref W.p), some (.int (0 + (j : Int))), some (.ref W.S), none, some (.ref m1), some (.ref m2), some (.ref m3), some (.ref m12), some (.ref mb), some (.ref m123), some (.ref ax), some (.ref u), some vs, some vl] : L2.St) ∧ AL K H' W m1 m2 m3 m12 mb m123 b12 bb b123 (1510 + 10 * j) Ht ∧ PQ Ht (.ref ax) x ∧ IsQ K Ht u x ∧ PQ Ht vl (PL.ledR W.p2 (PL.ledR W.p1 x)), ?_, ?_⟩
          · obtain ⟨d, t, e⟩ := alH.mq.d.ins
            refine ⟨_, rfl, m12, rfl, _, rfl, .inr ⟨_, _, e⟩, m12, _, .ref u, rfl, alH.mq.d, fs.d.fine (by decide), .amt quH, .inl ⟨x, .obj quH, up bx (by decide), fun r1 HI sI ir1 => ?_⟩⟩
            refine ⟨r1, _, rfl, ir1, fun vp HJ sJ pqp => ?_⟩
            have sIJ := sI.trans sJ
            refine ⟨_, rfl, dq _, dq _, pqp.dp, (plH.up sIJ).dp, rfl, rfl, _, rfl, ?_⟩
            rw [eqv_dq, decide_eq_true (fs.d.cm.val x)]
            refine iteF ?_
            have alJ := alH.up sIJ
            obtain ⟨d', t', e'⟩ := alJ.mq.f.ins
            refine ⟨_, rfl, m123, rfl, _, rfl, .inr ⟨_, _, e'⟩, m123, _, .ref u, rfl, alJ.mq.f, fs.f.fine (by decide), .amt (quH.up sIJ), .inl ⟨x, .obj (quH.up sIJ), up bx (by decide), fun r2 HK sK ir2 => ?_⟩⟩
            refine ⟨r2, _, rfl, ir2, fun vq HL sL pqq => ?_⟩
            have sKL := sK.trans sL
            have alL := alJ.up sKL
            refine ⟨_, rfl, W.S, _, 2, _, rfl, rfl, SqL.of alL.wd.at_, rfl, _, rfl, W.D3, W.w3, W.p3, vl, _, false, rfl, lst_f alL.wd.l3, F3, (plH.up sIJ).up sKL, up bg (by decide), fun vm HM sM pqm => ?_⟩
            refine ⟨dq _, dq _, (pqq.up sM).dp, pqm.dp, rfl, rfl, _, rfl, ?_⟩
            rw [eqv_dq, decide_eq_true (fs.f.cm.val x)]
            have sA := (sIJ.trans sKL).trans sM
            exact iteF ⟨rfl, alH.up sA, pqH.up sA, quH.up sA, plH.up sA⟩
          rintro σI HI ⟨rfl, alI, pqI, quI, plI⟩
          clear alH pqH quH plH
          obtain ⟨d, t, e⟩ := alI.mq.e.ins
          refine ⟨_, rfl, mb, rfl, _, rfl, .inr ⟨_, _, e⟩, mb, _, .ref u, rfl, alI.mq.e, fs.e.fine (by decide), .amt quI, .inl ⟨x, .obj quI, up bx (by decide), fun r1 HJ sJ ir1 => ?_⟩⟩
          have alJ := alI.up sJ
          have quJ := quI.up sJ
          obtain ⟨d1, t1, e1⟩ := alJ.mp.a.ins
          refine ⟨_, rfl, m1, d1, _, rfl, e1, rfl, _, rfl, m1, _, .ref u, rfl, alJ.mp.a, M1.fine (by decide), .amt quJ, .inl ⟨x, .obj quJ, up bx (by decide), fun r2 HK sK ir2 => ?_⟩⟩
          have ir1K := ir1.up sK
          refine ⟨r1, ir1K.choose, _, rfl, ir1K.choose_spec, ⟨_, T.ins_Amount ir2.choose_spec, .inl rfl⟩, r1, r2, _, _, rfl, ir1K, ir2, _, rfl, ?_⟩
          have ee1 : PL.ledR bb x = PL.ledR ((PL.bendF W.p1).map PL.swp) x := by rw [ei1]; exact fs.e.cm.val x
          rw [decide_eq_true ee1]
          refine ⟨_, rfl, iteF ?_⟩
          have alK := alJ.up sK
          have quK := quJ.up sK
          obtain ⟨d2, t2, e2⟩ := alK.mq.e.ins
          refine ⟨_, rfl, mb, d2, _, rfl, e2, rfl, _, rfl, mb, _, .ref u, rfl, alK.mq.e, fs.e.fine (by decide), .amt quK, .inl ⟨x, .obj quK, up bx (by decide), fun r3 HL sL ir3 => ?_⟩⟩
          have alL := alK.up sL
          have quL := quK.up sL
          obtain ⟨d3, t3, e3⟩ := alL.mp.a.ins
          refine ⟨_, rfl, m1, rfl, _, rfl, .inr ⟨_, _, e3⟩, m1, _, .ref u, rfl, alL.mp.a, M1.fine (by decide), .amt quL, .inl ⟨x, .obj quL, up bx (by decide), fun r4 HM sM ir4 => ?_⟩⟩
          have ir3M := ir3.up sM
          refine ⟨r3, ir3M.choose, _, rfl, ir3M.choose_spec, ⟨_, T.ins_Amount ir4.choose_spec, .inl rfl⟩, r3, r4, _, _, rfl, ir3M, ir4, _, rfl, ?_⟩
          have ee2 : PL.ledR (bb.map PL.swp) x = PL.ledR (PL.bendF W.p1) x := by rw [ev1]; exact fs.e.cm.swp_val fs.e.inv x
          rw [decide_eq_true ee2]
          refine ⟨_, rfl, iteF ⟨_, _, _, _, _, rfl, { (alL.up sM) with wd := (alL.up sM).wd.mono (by omega) }⟩⟩
        · rintro σ' HA ⟨o3, o12, o13, o14, o15, rfl, alA⟩
          exact ⟨_, _, _, _, _, rfl, { alA with wd := alA.wd.mono (by decide) }⟩
      rintro σA HA ⟨o3', o12', o13', o14', o15', rfl, alA⟩
      refine ⟨_, rfl, m1, _, rfl, alA.mp.a, M1.fine (by decide), fun HB sB => ⟨_, rfl, iteF ?_⟩⟩
      have alB := alA.up sB
      refine ⟨_, rfl, _, rfl, W.S, _, 0, _, rfl, rfl, SqL.of alB.wd.at_, rfl, W.D1, W.w1, W.p1, rfl, alB.wd.l1, BW.1.finL, fun r HC sC hr ir => ?_⟩
      have alC := alB.up sC
      obtain ⟨d1, t1, e1⟩ := alC.mp.a.ins
      obtain ⟨d2, t2, e2⟩ := ir.ins
      refine ⟨m1, d1, _, rfl, e1, ⟨_, T.ins_TempoMap e2, .inl rfl⟩, m1, .ref r, _, rfl, alC.mp.a, .inl ⟨r, _, rfl, ir, _, rfl, ?_⟩⟩
      rw [decide_eq_true rfl]
      exact ⟨_, rfl, iteF ⟨_, _, _, _, _, _, _, _, _, _, _, _, _, _, rfl, s1.trans alC.wd.same⟩⟩
    · rintro σ' H' ⟨o1, o2, o3, o4, o6, o7, o8, o9, o10, o11, o12, o13, o14, o15, rfl, s1⟩
      exact k _
end
end K09

set_option maxHeartbeats 0
namespace K09
open PySem PySem.Spec PyProof.Rows L2 AT
abbrev R : PySem.W.OpenRow := PySem.W.OpenLaw.row PySem.Challenge.rw_anytempo_k09_maps_there_and_back
abbrev hk : PySem.W.Hook := hookA 5 fn ex
def ob (s : PySem.W.SharedT) : AlA := obsAG 5 fn ex (HandSHeadRun.getT s)
theorem ob_eq (s : PySem.W.SharedT) : ob s = hk.obs s.abs := obsAG_eq (HandSHeadRun.getT_eq s)
theorem run (w : World) : HandSHeadRun.RunEq R (PySem.W.view R.prog [lawAt]) hk ob 20000 names w := by
  intro os
  kernel_rfl
end K09

set_option maxHeartbeats 0
open PySem PySem.W PySem.Calls PyProof.Rows
theorem PySem.Challenge.cw_anytempo_k09_maps_there_and_back_holds : PySem.Challenge.rw_anytempo_k09_maps_there_and_back.Holds := by
  w_on; o_law
  refine HandSHeadRun.head_any (r := OpenLaw.row PySem.Challenge.rw_anytempo_k09_maps_there_and_back) (q := view (OpenLaw.row PySem.Challenge.rw_anytempo_k09_maps_there_and_back).prog [K09.lawAt]) (H := K09.hk) (ob := K09.ob) (M := 20000) (loose := K09.names) (d := HandSHeadRun.topDef (OpenLaw.row PySem.Challenge.rw_anytempo_k09_maps_there_and_back).prog K09.lawAt) (kwd := []) K09.ob_eq
    (by kernel_rfl) (fun s => by kernel_rfl) K09.run (by kernel_rfl) (by kernel_rfl) (by kernel_rfl) (by rfl) (by first | assumption | decide +kernel) (by decide +kernel) ⟨rfl, rfl, rfl, rfl, rfl, by decide +kernel⟩ ?hw ?hc
  case hw => w_witness2
  case hc =>
    refine AT.walkO (l := PySem.Challenge.rw_anytempo_k09_maps_there_and_back) (n := 63) (k := 22) (x := "_law_script") (CX := fun w => L2.CX PySem.Challenge.rw_anytempo_k09_maps_there_and_back.prog w) rfl (by decide) (by kernel_rfl) ⟨rfl, by decide, by decide⟩ ?F (fun w H s e s' z => AT.cx_false z)
    intro w mg fa h Y G hmg0
    obtain ⟨K, KX, c⟩ := Y
    have e : (HandSHeadRun.topDef (OpenLaw.row PySem.Challenge.rw_anytempo_k09_maps_there_and_back).prog K09.lawAt).name = ("law" : PySem.Str) := by kernel_rfl
    rw [e] at hmg0
    have T : K09.Tx K mg h := ⟨c, KX, G⟩
    have e2 := hmg0.symm.trans T.g_law
    cases e2
    refine ⟨K, K09.spLaw K, KX, fun H a ns hl _ hS => ⟨a, ns, rfl, hS, fun _ => rfl⟩, fun base kb gb => ?_⟩
    obtain ⟨fd, hF, hb, _⟩ := K09.ok_law (P := PySem.Challenge.rw_anytempo_k09_maps_there_and_back.prog) (w := w) ⟨c, kb, gb⟩
    exact ⟨fd, hF, hb⟩

