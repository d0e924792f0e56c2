import PyProof.Rows.All
import Wide.All
import OpenK.AllK
import Wide.FinOn
import PyProof.ReprRoads
import HandS.ForMost
import HandS.ForExc
import HandS.ExcInit
import HandS.ExcField
import HandS.ExcIs
import HandS.TryMany
import HandS.IsInst
import HandS.Defaults
import HandS.Property
import HandS.Wide
import HandS.FStr
import HandS.StrMore
import HandS.Steps
import HandS.CallSlots
import HandS.Head0
import HandS.Head1
import HandS.Head2
import HandS.HeadEnd
import HandS.HeadHook1
import HandS.HeadHook2
import HandS.ClsMeth
import HandS.Walk
import KE.IntTextLaws
import HandS.Evl
import PySem.Challenge.RW_anytempo_k03_amounts_as_strings
set_option Elab.async false
set_option linter.all false
set_option maxRecDepth 100000
set_option maxHeartbeats 4000000
namespace AT
open PySem PySem.Spec PyProof.Rows L2
/-! ### the hook: facts of what the top leaves -/
def asA (g : Addr → Option Obj) : Nat → List Addr
  | 0 => [mainGlobals, cStatics]
  | n + 1 => He.growD g (asA g n)
/-- one def: where it stands, its name, qualified name, parameters, body, scope, defaults, keyword-only defaults -/
structure FD where
  loc : PySem.W.Frag → Addr
  name : Str
  qual : Str
  params : Arguments
  body : List Stmt
  scope : Scope
  dfl : List He.Dv := []
  kwd : List (Str × He.Dv) := []
def fdOf (loc : PySem.W.Frag → Addr) (name qual : Str) (st : Stmt) (dfl : List He.Dv := []) (kwd : List (Str × He.Dv) := []) : FD := ⟨loc, name, qual, defArgs st, defBody st, defScope st, dfl, kwd⟩
def fobs (K : PySem.W.Frag) (a : Addr) : He.FnW := match K.lookup a with
  | some ⟨_, _, .func u, _⟩ => some (u.name, u.qualname, u.params, u.body, u.scope, u.globals, u.closure, u.builtins)
  | _ => none
def FD.val (d : FD) : He.FnW := some (d.name, d.qual, d.params, .stmts d.body, d.scope, mainGlobals, [], builtinsNs)
def FD.dvs (K : PySem.W.Frag) (d : FD) : List V := d.dfl.map (He.Dv.v K)
def FD.kws (K : PySem.W.Frag) (d : FD) : List (Str × V) := d.kwd.map fun z => (z.1, z.2.v K)
def FD.ok (K : PySem.W.Frag) (d : FD) : Bool := PySem.W.keepIn K (.ref (d.loc K)) && (match K.lookup (d.loc K) with
  | some ⟨_, _, .func u, _⟩ => PySem.W.codeIn K u.code d.qual && (He.dflB K u.defaults (d.dvs K) && He.kwdB K u.kwdefaults (d.kws K))
  | _ => false)
theorem FD.funD {K : PySem.W.Frag} {d : FD} (e : fobs K (d.loc K) = d.val) (c : d.ok K = true) : ∃ fd, FunD K d.name d.qual d.params d.body d.scope (d.dvs K) (d.kws K) (d.loc K) fd := by
  obtain ⟨kp, c2⟩ := He.ba c
  unfold fobs at e
  cases hl : K.lookup (d.loc K) with
  | none =>
    rw [hl] at c2
    cases c2
  | some o =>
    obtain ⟨oc, od, dt, osl⟩ := o
    rw [hl] at c2 e
    cases dt with
    | func u =>
      obtain ⟨u1, u2, u3, u4, u5, u6, u7, u8, u9, u10, u11, u12, u13, u14, u15⟩ := u
      have e2 : (some (u1, u2, u3, u4, u5, u6, u7, u15) : He.FnW) = some (d.name, d.qual, d.params, .stmts d.body, d.scope, mainGlobals, [], builtinsNs) := e
      simp only [Option.some.injEq, Prod.mk.injEq] at e2
      obtain ⟨rfl, rfl, rfl, rfl, rfl, rfl, rfl, rfl⟩ := e2
      obtain ⟨k1, k2⟩ := He.ba (show (PySem.W.codeIn K u13 d.qual && (He.dflB K u8 (d.dvs K) && He.kwdB K u9 (d.kws K))) = true from c2)
      obtain ⟨k3, k4⟩ := He.ba k2
      exact ⟨_, ⟨oc, od, u8, u9, u10, u11, u12, u13, u14, osl, rfl, hl, k1, He.dflB_ok k3, He.kwdB_ok k4⟩, kp⟩
    | _ => cases c2
/-- the getter of a property of the class x -/
def propAt (x f : Str) (K : PySem.W.Frag) : Addr := match PySem.W.findIn K (.ref (He.ga K x)) f with
  | some (some (.ref p)) => (match PySem.W.recIn K p "property" with
    | some (.ref g :: _) => g
    | _ => 0)
  | _ => 0
abbrev AlA : Type := Bool × List He.FnW
abbrev Ex := List (PySem.W.Frag → Bool)
def obsA (fn : List FD) (ex : Ex) (K : PySem.W.Frag) : AlA :=
  (ex.all (fun e => e K) && fn.all (fun d => d.ok K), fn.map fun d => fobs K (d.loc K))
def valA (fn : List FD) : AlA := (true, fn.map FD.val)
def SaysA (fn : List FD) (ex : Ex) (K : PySem.W.Frag) : Prop := obsA fn ex K = valA fn
def obsAG (n : Nat) (fn : List FD) (ex : Ex) (g : Addr → Option Obj) : AlA := obsA fn ex (He.frG g (sysModules :: asA g n))
def hookA (n : Nat) (fn : List FD) (ex : Ex) : PySem.W.Hook where
  α := AlA
  obs := fun s => obsAG n fn ex s.heap.get?
  val := fun _ => valA fn
  says := fun _ h => ∃ K : PySem.W.Frag, K.In h ∧ SaysA fn ex K
  of := fun _ _ e => ⟨_, He.frG_in, e⟩
  keeps := fun _ _ _ ⟨K, hK, c⟩ k => ⟨K, PySem.W.Frag.In.keeps hK k, c⟩
theorem obsAG_eq {n : Nat} {fn : List FD} {ex : Ex} {g : Addr → Option Obj} {s : Shared} (h : ∀ a, g a = s.heap.get? a) : obsAG n fn ex g = (hookA n fn ex).obs s := by
  have q : g = s.heap.get? := funext h
  subst q
  rfl
section
variable {fn : List FD} {ex : Ex} {K : PySem.W.Frag}
theorem SaysA.more (c : SaysA fn ex K) (i : Nat) {e : PySem.W.Frag → Bool} (h : ex[i]? = some e := by rfl) : e K = true :=
  List.all_eq_true.mp (He.ba (congrArg (fun z : AlA => z.1) c)).1 e (List.mem_of_getElem? h)
theorem SaysA.fun_ (c : SaysA fn ex K) (i : Nat) {d : FD} (h : fn[i]? = some d := by rfl) : ∃ fd, FunD K d.name d.qual d.params d.body d.scope (d.dvs K) (d.kws K) (d.loc K) fd := by
  have c2 := (He.ba (show (ex.all (fun e => e K) && fn.all (fun d => d.ok K)) = true from congrArg (fun z : AlA => z.1) c)).2
  have e2 : (fn.map fun d => fobs K (d.loc K))[i]? = (fn.map FD.val)[i]? := congrArg (fun z : AlA => z.2[i]?) c
  rw [List.getElem?_map, List.getElem?_map, h] at e2
  exact FD.funD (Option.some.inj e2) (List.all_eq_true.mp c2 d (List.mem_of_getElem? h))
end
/-! ### facts of the module's names -/
def gloB (x : Str) (K : PySem.W.Frag) : Bool := He.eqO (PySem.W.nsIn K mainGlobals x) (some (some (.ref (He.ga K x))))
def freeB (x : Str) (K : PySem.W.Frag) : Bool := He.eqO (PySem.W.nsIn K mainGlobals x) (some none)
def conB (x : Str) (v : V) (K : PySem.W.Frag) : Bool := match PySem.W.nsIn K mainGlobals x with
  | some (some u) => He.relB v u
  | _ => false
theorem conB_ok {K : PySem.W.Frag} {h : Heap} {mg : Str → Option Value} {x : Str} {v : V} (X : K.In h) (G : h.Ns mainGlobals mg) (c : conB x v K = true) : ∃ u, mg x = some u ∧ RelV v u := by
  unfold conB at c
  split at c
  · rename_i u hu
    exact ⟨u, PySem.W.mg_of X G hu, He.relB_ok c⟩
  · cases c
def clsB (x : Str) (K : PySem.W.Frag) : Bool := (He.Fa.cls x).ok K
def noatB (x f : Str) (K : PySem.W.Frag) : Bool := (He.Fa.noat x f).ok K
def methB (x f : Str) (K : PySem.W.Frag) : Bool := (He.Fa.meth x f).ok K
def mkrB (x : Str) (K : PySem.W.Frag) : Bool := (He.Fa.mkr x).ok K
def exmB (x y : Str) (b : Bool) (K : PySem.W.Frag) : Bool := (He.Fa.exm x y b).ok K
def lstB (x : Str) (vs : List He.Dv) (K : PySem.W.Frag) : Bool := He.lstB K x vs
/-- a property of the class x: PropOf -/
def propB (x f : Str) (K : PySem.W.Frag) : Bool := match PySem.W.findIn K (.ref (He.ga K x)) f with
  | some (some (.ref p)) => He.eqO (PySem.W.specialIn K (.ref p) "__get__") (some (some (.builtin "property.__get__"))) && (decide (PySem.W.takesIn K (.ref p) = some true) && (match PySem.W.recIn K p "property" with
    | some (.ref _ :: _) => true
    | _ => false))
  | _ => false
theorem propB_ok {K : PySem.W.Frag} {x f : Str} (h : propB x f K = true) : ∃ p, PropOf K (He.ga K x) f p (propAt x f K) := by
  unfold propB at h
  split at h
  · rename_i p hp
    obtain ⟨h1, h⟩ := He.ba h
    obtain ⟨h2, h3⟩ := He.ba h
    split at h3
    · rename_i g rest hr
      have e : propAt x f K = g := by
        unfold propAt
        rw [hp]
        simp only [hr]
      exact ⟨p, hp, He.eqO_ok h1, of_decide_eq_true h2, rest, by rw [e]; exact hr⟩
    · cases h3
  · cases h
/-- isinstance of instances of the own class x -/
def insB (x : Str) (K : PySem.W.Frag) : Bool := He.eqO (PySem.W.findIn K (.ref (He.ga K x)) "__class__") (some (some (.builtin "object.__class__"))) &&
  (He.eqO (PySem.W.specialIn K (.builtin "object.__class__") "__get__") (some (some (.builtin "getset_descriptor.__get__"))) &&
  (decide (PySem.W.takesIn K (.builtin "object.__class__") = some true) && decide (PySem.W.mroIn K (He.ga K x) (.type "object") = some true)))
theorem insB_ok {K : PySem.W.Frag} {x : Str} (h : insB x K = true) (c : Cls K (He.ga K x)) {H : Hp} {a dx : Addr} {fs : List (Str × V)} (e : H a = some (.ins (He.ga K x) dx fs)) : TyX K H (.ref a) (.ref (He.ga K x)) := by
  obtain ⟨h1, h⟩ := He.ba h
  obtain ⟨h2, h⟩ := He.ba h
  obtain ⟨h3, h4⟩ := He.ba h
  exact .base (.ins e c (He.eqO_ok h1) (He.eqO_ok h2) (of_decide_eq_true h3) (of_decide_eq_true h4))
/-- isinstance of a value of the type t (built-in, by name; "" : the own class x) with the class c -/
def kitB (t : PySem.W.Frag → Value) (c : PySem.W.Frag → Value) (b : Bool) (K : PySem.W.Frag) : Bool := decide (PySem.W.kitOne K (t K) (c K) = some b)
theorem kitB_ok {K : PySem.W.Frag} {t c : PySem.W.Frag → Value} {b : Bool} (h : kitB t c b K = true) : PySem.W.kitOne K (t K) (c K) = some b := of_decide_eq_true h
/-- sys.modules stands in the part that is looked at -/
def sysB (K : PySem.W.Frag) : Bool := match K.lookup sysModules with
  | some ⟨.type c, _, _, _⟩ => decide (c = "dict")
  | _ => false
theorem sysB_ok {K : PySem.W.Frag} (h : sysB K = true) : ∃ o, K.lookup sysModules = some o ∧ o.cls = .type "dict" := by
  unfold sysB at h
  split at h
  · rename_i c dd dt sl ho
    exact ⟨_, ho, congrArg Value.type (of_decide_eq_true h)⟩
  · cases h
/-! ### exception classes: what is looked at -/
/-- an own class over ValueError with its own __init__, with the base class at B of the package -/
def excB (K : PySem.W.Frag) (C : Addr) : Bool := match K.lookup C with
  | some ⟨.type t, _, .cls cd, sl⟩ => (match cd.mro, sl.toList with
    | .ref D :: bm, [_, _, _, _, some (.builtin n), _] => decide (t = "type") && (decide (D = C) && (decide (n = "ValueError.__new__") && (!cd.hasDel && (cd.hasDict && HandSPX.refsVE bm))))
    | _, _ => false)
  | _ => false
theorem excB_ok {K : PySem.W.Frag} {C : Addr} (h : excB K C = true) :
    ∃ nm q N bs bm sn sub ab col dd k0 k1 k2 k3 k5, K.lookup C = some (excClassObj nm q C N bs bm true sn sub ab col dd k0 k1 k2 k3 k5 "ValueError.__new__") ∧ PySem.HandSPX.refsVE bm = true := by
  unfold excB at h
  split at h
  · rename_i t dd cd sl ho
    split at h
    · rename_i D bm k0 k1 k2 k3 n k5 hm hs
      simp only [Bool.and_eq_true, decide_eq_true_eq, Bool.not_eq_true'] at h
      obtain ⟨rfl, rfl, rfl, hdel, hdic, ht⟩ := h
      obtain ⟨nm, bs, mro, ns, qn, hd, sn, sub, ab, col, del⟩ := cd
      dsimp only at hm hdel hdic
      subst hm hdel hdic
      have hsl : sl = #[k0, k1, k2, k3, some (.builtin "ValueError.__new__"), k5] := by
        obtain ⟨l⟩ := sl
        simp only at hs
        rw [hs]
      subst hsl
      exact ⟨nm, qn, ns, bs, bm, sn, sub, ab, col, dd, k0, k1, k2, k3, k5, ho, ht⟩
    · cases h
  · cases h
/-- all that is asked of an exception class x with the field f -/
def xcB (K : PySem.W.Frag) (x f : Str) : Bool :=
  excB K (He.ga K x) && (He.eqO (PySem.W.findIn K (.ref (He.ga K x)) "__setattr__") (some (some (.builtin "object.__setattr__"))) &&
  (decide (PySem.W.subIn K (.ref (He.ga K x)) (.type "BaseException") = some true) && (decide (PySem.W.typeIn K (.ref (He.ga K x)) = some (.type "type")) &&
  (PySem.W.keepIn K (.ref (He.ga K x)) && (He.eqO (PySem.W.findIn K (.ref (He.ga K x)) f) (some none) && (xfB K (He.ga K x) &&
  (He.eqO (PySem.W.findIn K (.ref (He.ga K x)) "__init__") (some (some (.ref (He.ma K (He.ga K x) "__init__")))) &&
  (decide (PySem.W.typeIn K (.ref (He.ma K (He.ga K x) "__init__")) = some (.type "function")) &&
  He.eqO (PySem.W.nsIn K mainGlobals x) (some (some (.ref (He.ga K x)))))))))))) 
structure Xc (K : PySem.W.Frag) (x f : Str) : Prop where
  oex : OexC K (He.ga K x)
  xf : XfC K (He.ga K x)
  no : PySem.W.findIn K (.ref (He.ga K x)) f = some none
  ini : PySem.W.findIn K (.ref (He.ga K x)) "__init__" = some (some (.ref (He.ma K (He.ga K x) "__init__")))
  tyi : PySem.W.typeIn K (.ref (He.ma K (He.ga K x) "__init__")) = some (.type "function")
  glo : PySem.W.nsIn K mainGlobals x = some (some (.ref (He.ga K x)))
theorem xcB_ok {K : PySem.W.Frag} {x f : Str} (h : xcB K x f = true) : Xc K x f := by
  obtain ⟨h1, h⟩ := He.ba h
  obtain ⟨h2, h⟩ := He.ba h
  obtain ⟨h3, h⟩ := He.ba h
  obtain ⟨h4, h⟩ := He.ba h
  obtain ⟨h5, h⟩ := He.ba h
  obtain ⟨h6, h⟩ := He.ba h
  obtain ⟨h7, h⟩ := He.ba h
  obtain ⟨h8, h⟩ := He.ba h
  obtain ⟨h9, h10⟩ := He.ba h
  exact ⟨⟨excB_ok h1, He.eqO_ok h2, of_decide_eq_true h3, of_decide_eq_true h4, h5⟩, xfB_ok h7, He.eqO_ok h6, He.eqO_ok h8, of_decide_eq_true h9, He.eqO_ok h10⟩
def valB (c : Option PySem.W.CFound) (u : Value) : Bool := match c with
  | some (.val v) => decide (v = u)
  | _ => false
theorem valB_ok {c : Option PySem.W.CFound} {u : Value} (h : valB c u = true) : c = some (.val u) := by
  unfold valB at h
  split at h
  · rw [of_decide_eq_true h]
  · cases h
/-- the base class of the package: B.__init__ is ValueError's -/
def baB (K : PySem.W.Frag) (B : Str) : Bool :=
  PySem.W.readsIn K (He.ga K B) (.type "type") && (He.eqO (PySem.W.specialIn K (.ref (He.ga K B)) "__getattribute__") (some (some (.builtin "type.__getattribute__"))) &&
  (valB (PySem.W.findCls K (.ref (He.ga K B)) (.type "type") "__init__") (.builtin "ValueError.__init__") &&
  He.eqO (PySem.W.nsIn K mainGlobals B) (some (some (.ref (He.ga K B))))))
structure Ba (K : PySem.W.Frag) (B : Str) : Prop where
  rd : PySem.W.readsIn K (He.ga K B) (.type "type") = true
  ga : PySem.W.specialIn K (.ref (He.ga K B)) "__getattribute__" = some (some (.builtin "type.__getattribute__"))
  ini : PySem.W.findCls K (.ref (He.ga K B)) (.type "type") "__init__" = some (.val (.builtin "ValueError.__init__"))
  glo : PySem.W.nsIn K mainGlobals B = some (some (.ref (He.ga K B)))
theorem baB_ok {K : PySem.W.Frag} {B : Str} (h : baB K B = true) : Ba K B := by
  obtain ⟨h1, h⟩ := He.ba h
  obtain ⟨h2, h⟩ := He.ba h
  obtain ⟨h3, h4⟩ := He.ba h
  exact ⟨h1, He.eqO_ok h2, valB_ok h3, He.eqO_ok h4⟩
end AT

set_option maxHeartbeats 4000000
namespace AT
open PySem PySem.Spec PyProof.Rows L2
section
variable {X : Cx} {e : Expr} {es : List Expr} {ta : TA} {B : Str} {p1 p2 pos : Pos}
/-- B.__init__(self, ..), B an own class over ValueError -/
theorem pe_cinit {look : Sem Bool} (T : Ba X.K B) (hB : Gl X B) (hmB : X.mg B = some (.ref (He.ga X.K B))) (hA : PA X (e :: es) ta)
    (hev : eval (.Call (.Attribute (.Name B p1) "__init__" p2) (e :: es) [] pos) X.env = (do
      let cv ← eval (.Name B p1) X.env
      standAt p2.atName
      let (fv, frst) ← holding [cv] (getMethod cv "__init__" look)
      callWith pos fv frst (backTo pos (starEach (e :: es) X.env)) (backToKw pos (keywordEach [] X.env))) := by rfl)
    (hdb : (B == ("__debug__" : Str)) = false := by decide)
    (hst : starEach (e :: es) X.env = (false, eval e X.env) :: starEach es X.env := by rfl) (hns : (backTo pos (starEach es X.env)).any (·.1) = false := by rfl) :
    PE X (.Call (.Attribute (.Name B p1) "__init__" p2) (e :: es) [] pos) (tVeI X.K ta) := by
  constructor
  intro pins s σ H Q I h
  refine PySem.W.methodCall_KW (ld_glob I hB hmB ?_ hdb) hev
  refine PySem.W.method_cls I.kIn T.ga (PySem.W.cls_value I.kIn T.rd T.ini (by decide +kernel) ?_)
  show wpAny _ _ (callWith pos (Value.builtin "ValueError.__init__") [] (backTo pos (starEach (e :: es) X.env)) []) _ _ _
  refine PyProof.Rows.callWith_method1 (thn (hA.run pos pins _ σ H _ (I.tok _) h) fun vals s1 ⟨vs, H1, I1, r1, a, C, ws, ev, hl, To, ea, q⟩ => ?_) hst hns
  subst ev
  cases r1 with
  | @cons _ v0 _ vr ra rr =>
    obtain rfl : v0 = Value.ref a := ra
    refine oinit_ok To I1 ea ?_ fun s' J => ⟨.non, H1, J, rfl, q⟩
    rw [← Paired.length rr, sizeLine_eq]
    omega
end
/-- what an exception's own __init__(self, f) promises -/
def spXi (K : PySem.W.Frag) (C : Addr) (f : Str) : Sp := fun vs H Q _ => ∃ (a : Addr) (v : V), vs = [.ref a, v] ∧ OexC K C ∧ PySem.W.findIn K (.ref C) f = some none ∧ H a = some (exo a C none) ∧
  ∀ d, H d = none → d ≠ a → Q .non (upd (upd H d (exd d [(f, v)])) a (exo a C (some d)))
/-- its body's reading -/
theorem xi_reading {K : PySem.W.Frag} {C : Addr} {f : Str} {t : Str} {N : List Str} (hN : N = [("self" : Str), f]) (vs : List V) (H : Hp) (Q : VK) (E : XK) (h : spXi K C f vs H Q E) :
    tSeq (tDrop (tVeI K (tCons (tVar 0) (tCons (tC (.str t)) tNil)))) (tOst K f (tVar 0) (tVar 1)) { nx := fun _ H' => Q .non H', rt := Q } (start N vs) H := by
  obtain ⟨a, v, rfl, T, no, ha, k⟩ := h
  subst hN
  refine ⟨_, rfl, a, C, [.str t], rfl, (by show 1 ≤ 1000; decide), T, ha, _, rfl, _, rfl, a, C, rfl, T, no, .inl ⟨ha, k⟩⟩
/-- X(e) -/
abbrev tMk1 (K : PySem.W.Frag) (C : Addr) (f : Str) (te : TE) : L2.St → Hp → XK → Prop := tMkO C (spXi K C f) [] (tCons te tNil)
/-- an exception class x with the field f may be made in X -/
structure MkX (X : Cx) (x f : Str) : Prop where
  run : ∀ {e : Expr} {te : TE} {p pos : Pos}, Gl X x → PE X e te → starEach [e] X.env = (false, eval e X.env) :: starEach [] X.env → PMk X (.Call (.Name x p) [e] [] pos) (tMk1 X.K (He.ga X.K x) f te)
theorem heap_back {H1 : Hp} {a d C : Addr} {fs : List (Str × V)} {o : HO} (ha : H1 a = none) (hd : d ≠ a) :
    upd (del (upd (upd (upd H1 a (exo a C none)) d o) a (exo a C (some d))) a) d (.xd fs) = upd H1 d (.xd fs) := by
  funext b
  by_cases h1 : b = d
  · subst h1
    rw [upd_same, upd_same]
  · rw [upd_ne h1, upd_ne h1]
    by_cases h2 : b = a
    · subst h2
      rw [del_same, ha]
    · rw [del_ne h2, upd_ne h2, upd_ne h1, upd_ne h2]
/-- behind e's value: what the raise asks -/
theorem mk_at {K : PySem.W.Frag} {C : Addr} {f : Str} {v : V} {H1 : Hp} {Q : XK} (T : OexC K C) (no : PySem.W.findIn K (.ref C) f = some none) (k : ∀ d, H1 d = none → Q (.ref C) (some d) (upd H1 d (.xd [(f, v)]))) :
    [v].length ≤ 1000 ∧ ∀ a, H1 a = none → spXi K C f (.ref a :: ([v] ++ [])) (upd H1 a (exo a C none))
      (fun r H2 => r = .non ∧ ∃ (d : Addr) (fs : List (Str × V)), H2 a = some (exo a C (some d)) ∧ H2 d = some (exd d fs) ∧ H1 d = none ∧ Q (.ref C) (some d) (upd (del H2 a) d (.xd fs))) (fun _ _ _ => False) := by
  refine ⟨(by show 1 ≤ 1000; decide), fun a ha => ⟨a, v, rfl, T, no, upd_same, fun d hd hda => ?_⟩⟩
  have hd1 : H1 d = none := by rw [upd_ne hda] at hd; exact hd
  refine ⟨rfl, d, [(f, v)], upd_same, ?_, hd1, ?_⟩
  · rw [upd_ne hda, upd_same]
  · rw [heap_back ha hda]
    exact k d hd1
theorem mkX_of {X : Cx} {x f : Str} {k : Nat} {fd : FuncData} (T : Xc X.K x f) (hm : X.mg x = some (.ref (He.ga X.K x))) (F : FnOk X.prog X.w X.K X.mg X.base (L2.CX X.prog X.w) k (He.ma X.K (He.ga X.K x) "__init__") fd [("self" : Str), f] (spXi X.K (He.ga X.K x) f))
    (hb : Binds X.K fd [("self" : Str), f] []) (hr : Room (k + 1) X.A) (hdb : (x == ("__debug__" : Str)) = false := by decide) : MkX X x f := by
  refine ⟨fun {e te p pos} hg he hst => ?_⟩
  exact pmk_oex T.oex T.ini T.tyi F hr hb .nil passL hg hm (pa_cons he pa_nil hst) hdb hst rfl
/-- raise X(e) -/
theorem ps_rs {X : Cx} {x f : Str} {W : WX} {e : Expr} {te : TE} {p pos pos2 : Pos} (hc : X.calm = true) (M : MkX X x f) (tk : Takes X W) (hg : Gl X x) (he : PE X e te) (hst : starEach [e] X.env = (false, eval e X.env) :: starEach [] X.env := by rfl) :
    PS X (.Raise (some (.Call (.Name x p) [e] [] pos)) none pos2) (fun _ σ H => tMk1 X.K (He.ga X.K x) f te σ H fun cls d H' => W cls d σ H') := ps_raise hc tk (M.run hg he hst)
end AT

set_option maxHeartbeats 4000000
namespace AT
open PySem PySem.Spec PyProof.Rows L2
/-- a clause: the class, the name's slot, the suite's reading -/
abbrev Cla := Value × Nat × (Addr → Value → Option Addr → TS)
def wMas (K : PySem.W.Frag) (Wo : WX) (D : Ends) : List Cla → WX
  | [] => Wo
  | (c, i, ts) :: r => fun cls d σ H => ∃ b, PySem.W.exmOne K cls c = some b ∧
      (b = true → ∀ a, H a = none → ts a cls d { nx := fun σ' H' => D.nx (σ'.set i none) H', rt := D.rt, bk := fun σ' H' => D.bk (σ'.set i none) H', ct := fun σ' H' => D.ct (σ'.set i none) H' } (σ.set i (some (.ref a))) H) ∧
      (b = false → wMas K Wo D r cls d σ H)
inductive HdsAs (X : Cx) : List ExceptHandler → List Cla → Prop
  | nil : HdsAs X [] []
  | cons {x n : Str} {c : Value} {i : Nat} {ts : Addr → Value → Option Addr → TS} {s1 : Stmt} {ss : List Stmt} {q1 q2 : Pos} {hds : List ExceptHandler} {l : List Cla} (hN : X.N.Nodup) (hi : X.N[i]? = some n) (hl : X.env.kindOf n = some .local) (hc : Names X x c)
      (hsu : ∀ (a : Addr) (oe : Obj) (cls : Value) (d : Option Addr) (pn : List (Addr × Obj)), Zc cls d oe → (∃ vs, oe.data = .fields vs) → PSs (X.suite a ((a, oe) :: pn)) (s1 :: ss) (ts a cls d)) (r : HdsAs X hds l) :
      HdsAs X (.ExceptHandler (some (.Name x q1)) (some n) (s1 :: ss) q2 :: hds) ((c, i, ts) :: l)
section
variable {X : Cx} {bd : List Stmt} {hd0 : ExceptHandler} {hds : List ExceptHandler} {l : List Cla} {pos : Pos} {tb : WX → TS} {Wo : WX}
theorem ps_try_mas (stk : X.stack = X.env :: X.outer) (frm : X.env.frame = some X.env.locals) (tkn : Takes X Wo)
    (hbd : ∀ (W : WX) (pn : List (Addr × Obj)) (xe : Value → Shared → Prop), Takes (X.tr pn xe) W → PassesOwn (model X.prog X.w) X.A X.env xe → PSs (X.tr pn xe) bd (tb W))
    (hhs : HdsAs X (hd0 :: hds) l) : PS X (.Try bd (hd0 :: hds) [] [] pos) (fun D σ H => tb (wMas X.K Wo D l) D σ H) := by
  constructor
  intro pins s σ H D I h
  have oki := I.ok
  have frs2 : X.A.frames = some (X.env :: X.outer) := by rw [oki.frames, stk]
  refine wpAny_Try_except ?_
  refine wpAny_mono ((hbd (wMas X.K Wo D l) (X.pn ++ pins) (fun ev t1 => wpAny (model X.prog X.w) X.A (noteFrame ev X.env) (fun _ t2 => wpAny (model X.prog X.w) X.A (setFlight ev none) (fun _ t3 =>
    wpAny (model X.prog X.w) X.A (handleBy ev X.env (hd0 :: hds)) (SP X pins D) X.xe t3) X.xe t2) X.xe t1) (fun u t xx => ?_) PassesOwn.looking).run [] s σ H D (I.toTry _) h) (fun fl t1 hfl => ?_) (fun _ _ z => z)
  · obtain ⟨a, G, tI, pp, σ1, H1, cls, d, rfl, Jt, nbh, upI, sk, na, eos, abr, wsh⟩ := xx
    have J1 : Inv X pins σ1 H1 tI := Jt.ofTry oki
    have sk2 : Sky G (X.env :: X.outer) a (Zc cls d) X.env.locals t.heap := by rw [← stk]; exact sk
    show wpAny (model X.prog X.w) X.A (noteFrame (.ref a) X.env) _ _ _
    refine Sky.land Zc.steady frs2 frm sk2 fun g3 fy3 ut3 => ?_
    have J3 : Inv X pins σ1 H1 { t with heap := g3 } := J1.landed nbh fy3.1 (upI.trans ut3) eos abr
    obtain ⟨ox3, vx3, gx3, zx3, dx3⟩ := fy3.there
    have nofr : a ∉ frs (X.env :: X.outer) := fun hm => by
      obtain ⟨_, o', e', hnf⟩ := fy3.2.2.1.mem hm
      rw [gx3] at e'
      cases e'
      exact hnf _ dx3
    have neL : a ≠ X.env.locals := fun z => nofr (List.mem_filterMap.mpr ⟨X.env, List.mem_cons_self, by rw [frm, z]⟩)
    have neF : a ∉ X.fs := fun hm => by
      obtain ⟨ev, hev, q⟩ := List.mem_filterMap.mp hm
      exact nofr (List.mem_filterMap.mpr ⟨ev, List.mem_cons_of_mem _ hev, q⟩)
    have Sx := J3.suite gx3 dx3 na neL neF
    have run : ∀ {hs' : List ExceptHandler} {l' : List Cla}, HdsAs X hs' l' → wMas X.K Wo D l' cls d σ1 H1 →
        wpAny (model X.prog X.w) X.A (handleBy (.ref a) X.env hs') (SP X pins D) X.xe { t with heap := g3 } := by
      intro hs' l' hk
      induction hk with
      | nil =>
        intro ww
        refine wpAny_handleBy_nil ?_
        obtain ⟨_, _, _, ob, vb, Tb, oTb, tsb, gb, zb, db, b1, _⟩ := id fy3
        unfold PySem.passOn
        refine wpAny_bind (wpAny_field gb db b1 ?_)
        rw [if_neg (by simp)]
        have fin : wpAny (model X.prog X.w) X.A (setFlight (.ref a) X.env.frame) (fun _ t4 => wpAny (model X.prog X.w) X.A (throw (.ref a) : Sem Flow) (SP X pins D) X.xe t4) X.xe { t with heap := g3 } := by
          rw [frm]
          refine HandSPX.setFlight_upZ fy3 fun g4 hg4 ut4 => wpAny_throw (tkn _ _ ?_)
          exact ⟨a, G, tI, pins, σ1, H1, cls, d, rfl, J1, nbh, (upI.trans ut3).trans ut4, .inr (.inr (by rw [stk]; exact hg4)), na, eos, abr, ww⟩
        first
          | exact wpAny_bind (wpAny_pure (wpAny_bind fin))
          | exact wpAny_bind fin
      | @cons x n c i ts s1 ss q1 q2 hds2 l2 hN hi hl hc hsu r ih =>
        intro ww
        obtain ⟨b, hb1, yes, nay⟩ := ww
        refine wpAny_handleBy_cons (codeAny_handlers_test ?_) (by intro q; cases q)
        have LT : PySem.W.Looks (model X.prog X.w) g3 (typeOf (.ref a)) cls := fun _ _ _ _ k q => wpAny_typeOf_ref (k _ _ gx3) (by rw [zx3.1]; exact q)
        have LM := PySem.W.exm_one (M := model X.prog X.w) (J3.kIn) LT hb1
        have tst : ∀ {Q : Value → Shared → Prop} {E : Value → Shared → Prop}, Q c { t with heap := g3 } → wpAny (model X.prog X.w) (X.A.mark (some (.ref a))) (eval (.Name x q1) X.env) Q E { t with heap := g3 } := fun {Q E} q => by
          obtain ⟨hg, hdbg, hm | ⟨hm, hv, hnn⟩⟩ := hc
          · exact ld_glob (X := X.suite a ((a, ox3) :: (X.pn ++ pins))) Sx hg hm q hdbg
          · exact ld_blt (X := X.suite a ((a, ox3) :: (X.pn ++ pins))) Sx hg hm hv q hnn hdbg
        refine tst (LM.here ?_)
        cases b with
        | true =>
          refine codeAny_handlers_suite_as ?_
          refine HandSPX.lands_againZ fy3 fun g4 fy4 ut4 => ?_
          have J4 : Inv X pins σ1 H1 { t with heap := g4 } := J1.landed nbh fy4.1 ((upI.trans ut3).trans ut4) eos abr
          obtain ⟨ox4, vx4, gx4, zx4, dx4⟩ := fy4.there
          have Sy := J4.suite gx4 dx4 na neL neF
          refine store_ok (X := X.suite a ((a, ox4) :: (X.pn ++ pins))) (v := .ref a) Sy hN hi (.inl hl) rfl (fun t5 S5 => ?_) (.inr hl)
          refine wpAny_mono ((hsu a ox4 cls d (X.pn ++ pins) zx4 ⟨_, dx4⟩).run [] t5 _ H1 _ S5 (yes rfl a na)) (fun fl t6 hfl => ?_) (fun _ _ z => False.elim z)
          have gone : ∀ {σ6 : L2.St} {H6 : Hp} {Q : Shared → Prop}, Inv (X.suite a ((a, ox4) :: (X.pn ++ pins))) [] σ6 H6 t6 → (∀ t7, Inv X pins (σ6.set i none) H6 t7 → Q t7) →
              wpAny (model X.prog X.w) X.A (do bindName X.env n .none; unbindBehindTheSuite X.env n q2) (fun _ t7 => Q t7) X.xe t6 := fun {_ _ _} S6 hq => gone_ok (S6.unsuite oki) hN hi hl hq
          cases fl with
          | ret u =>
            obtain ⟨_, _, _, S6, rr, qq⟩ := hfl
            exact gone S6 fun _ J7 => ⟨_, _, _, J7, rr, qq⟩
          | _ =>
            obtain ⟨_, _, S6, qq⟩ := hfl
            exact gone S6 fun _ J7 => ⟨_, _, J7, qq⟩
        | false =>
          show wpAny _ X.A (handleBy (.ref a) X.env hds2) _ _ _
          exact ih (nay rfl)
    exact run hhs wsh
  · cases fl with
    | next =>
      obtain ⟨_, _, Jn, q⟩ := hfl
      exact wpAny_execs_nil ⟨_, _, Jn.ofTry oki, q⟩
    | ret u =>
      obtain ⟨_, _, _, Jn, rr, q⟩ := hfl
      exact ⟨_, _, _, Jn.ofTry oki, rr, q⟩
    | _ =>
      obtain ⟨_, _, Jn, q⟩ := hfl
      exact ⟨_, _, Jn.ofTry oki, q⟩
end
end AT

set_option maxHeartbeats 4000000
namespace AT
open PySem PySem.Spec PyProof.Rows L2
/-! ### defs that are called where no repr is under way -/
structure FnG (P : Program) (w : World) (K : PySem.W.Frag) (mg : Str → Option Value) (base : Heap) (CX : CXT) (k : Nat) (f : Addr) (fd : FuncData) (ps : List Str) (sp : Sp) : Prop where
  len : ∀ vs H Q E, sp vs H Q E → vs.length = ps.length
  run : ∀ (A : Around) (outer : List Env) (s : Shared) (H : Hp) (args : Args) (us : List Value) (vs : List V) (Q : VK) (E : XK), A.guards = some [] → Room k A → Env0 P w K mg base A outer s H → BindsTo s fd args (ps.zip us) → Vals vs us → sp vs H Q E →
    codeAny (model P w) A (.call (.ref f) args) (CR CX outer P w H s Q E) s
theorem okG {P : Program} {w : World} {K : PySem.W.Frag} {mg : Str → Option Value} {base : Heap} {x qual : Str} {params : Arguments} {body : List Stmt} {scope : Scope} {dvs : List V} {kws : List (Str × V)} {f : Addr} {fd : FuncData}
    {CX : CXT} {N ps : List Str} {k : Nat} {sp : Sp} (F : FunD K x qual params body scope dvs kws f fd) (S : FnScope N ps scope) (len : ∀ vs H Q E, sp vs H Q E → vs.length = ps.length)
    (hbody : ∀ (cdv : Value) (A : Around) (outer : List Env) (s : Shared) (H : Hp) (vs : List V) (Q : VK) (E : XK), A.guards = some [] → Room k (A.deeper (envOfC qual scope s.heap.objs.size f cdv)) → sp vs H Q E →
      ∃ t, PSs (cxOf CX P w K mg base N qual scope f cdv A outer s H E) body t ∧ t { nx := fun _ H' => Q .non H', rt := Q } (start N vs) H) : FnG P w K mg base CX (k + 1) f fd ps sp := by
  obtain ⟨oc, od, dV, kV, doc, pm, an, cdv, ct, osl, rfl, lk, hcd, _, _⟩ := F.ex
  refine ⟨len, fun A outer s H args us vs Q E hgd hr e0 hbd rv hsp => ?_⟩
  have KI : K.In s.heap := e0.mod.kin.keeps fun b o z => (e0.bs b o z).1
  have nl : s.heap.NoLimit := e0.mod.nolimit.keeps fun b o z => (e0.bs b o z).1
  have kinds : ∀ y ∈ ps.zip us, scope.names.lookup y.1 = some .local ∨ (scope.names.lookup y.1 = some .cell ∧ ((cellsFrom (s.heap.objs.size + 1) scope.names []).lookup y.1).isSome = true) := by
    rintro ⟨n, v⟩ hy
    exact (S.par n (List.of_mem_zip hy).1).imp id fun q => ⟨q, PySem.W.cellsFrom_some _ _ _ (.inl q)⟩
  refine codeAny_call_function hr.depth (KI _ _ lk) rfl S.co S.gen rfl (PySem.W.codeRec_of KI hcd) (hbd _ _ _ _ ?_)
  refine wpAny_newFunctionEnv_cells S.kind kinds fun env he s1 ic => ?_
  subst he
  refine ⟨nl.keeps ic.toInCall.keep, codeAny_func ?_⟩
  obtain ⟨t, ht, hq⟩ := hbody cdv A outer s H vs Q E hgd (hr.deeper _) hsp
  have I1 := inv_start (CX := CX) (E := E) S hr.hd e0 (len _ _ _ _ hsp) rv ic
  refine wpAny_mono (ht.run [] s1 (start N vs) H _ I1 hq) (fun fl s' hfl => ?_) fun _ _ z => z
  cases fl with
  | ret u =>
    obtain ⟨v, _, H', J, r2, q⟩ := hfl
    exact ⟨v, H', J.os, J.bare, J.base, J.hok, r2, q⟩
  | next =>
    obtain ⟨_, H', J, q⟩ := hfl
    exact ⟨V.non, H', J.os, J.bare, J.base, J.hok, rfl, q⟩
  | _ =>
    obtain ⟨_, _, _, q⟩ := hfl
    exact q.elim
section
variable {X : Cx} {CX : CXT} {k : Nat} {f : Addr} {fd : FuncData} {ps : List Str} {sp : Sp} {dvs : List V} {ds : List Value} {E : XK} {x : Str} {p pos : Pos} {e : Expr} {es : List Expr} {t : TA}
theorem run_g {pins : List (Addr × Obj)} {σ : L2.St} {H : Hp} {s : Shared} {Q : VK} {us : List Value} {vs : List V} (F : FnG X.prog X.w X.K X.mg X.base CX k f fd ps sp) (hgd : X.A.guards = some []) (hr : Room k X.A) (hb : Binds X.K fd ps ds) (hd : Vals dvs ds) (hx : Passes CX X E)
    (I : Inv X pins σ H s) (r : Vals vs us) (h : sp (vs ++ dvs) H Q E) : wpAny (model X.prog X.w) X.A (call (.ref f) us) (EP X pins σ Q) X.xe s := by
  have r2 : Vals (vs ++ dvs) (us ++ ds) := r.append hd
  have hlen : (us ++ ds).length = ps.length := r2.length.symm.trans (F.len _ _ _ _ h)
  refine wpAny_call (codeAny_mono (F.run X.A X.stack s H ⟨us, []⟩ (us ++ ds) (vs ++ dvs) Q E hgd hr I.env0 (hb s us I.kIn hlen) r2 h) fun res s' hq => ?_)
  cases res with
  | error er => exact hx pins σ H s er s' I hq
  | ok fl =>
    cases fl with
    | ret u => exact I.after hq
    | _ => exact False.elim hq
theorem pe_callG (F : FnG X.prog X.w X.K X.mg X.base CX k f fd ps sp) (hgd : X.A.guards = some []) (hr : Room k X.A) (hg : Gl X x) (hm : X.mg x = some (.ref f)) (hk : PySem.W.keepIn X.K (.ref f) = true) (hb : Binds X.K fd ps ds) (hd : Vals dvs ds) (hx : Passes CX X E)
    (ha : PA X (e :: es) t) (hdb : (x == ("__debug__" : Str)) = false := by decide) (hst : starEach (e :: es) X.env = (false, eval e X.env) :: starEach es X.env := by rfl) (hns : (backTo pos (starEach es X.env)).any (·.1) = false := by rfl) :
    PE X (.Call (.Name x p) (e :: es) [] pos) (tCall sp dvs E t) := by
  constructor
  intro pins s σ H Q I h
  refine wpAny_Call_Name_kw (ld_glob I hg hm ?_ hdb)
  refine PySem.W.callWith_K (h₀ := X.base) I.ok.mod.kin hk (thn (ha.run pos pins s σ H _ I h) fun us s1 hh => ?_) hst hns
  obtain ⟨vs, H1, I1, r, q⟩ := hh
  exact ⟨I1.kIn, run_g F hgd hr hb hd hx I1 r q⟩
theorem pe_callG0 (F : FnG X.prog X.w X.K X.mg X.base CX k f fd ps sp) (hgd : X.A.guards = some []) (hr : Room k X.A) (hg : Gl X x) (hm : X.mg x = some (.ref f)) (hk : PySem.W.keepIn X.K (.ref f) = true) (hb : Binds X.K fd ps ds) (hd : Vals dvs ds) (hx : Passes CX X E)
    (hdb : (x == ("__debug__" : Str)) = false := by decide) : PE X (.Call (.Name x p) [] [] pos) (tCall sp dvs E tNil) := by
  constructor
  intro pins s σ H Q I h
  exact wpAny_Call_Name_kw (ld_glob I hg hm (PySem.W.callWith_K0 I.kIn hk (run_g (us := []) F hgd hr hb hd hx I .nil h)) hdb)
end
/-! ### data: what stands under a value; repr -/
mutual
inductive Dd (K : PySem.W.Frag) (H : Hp) : V → PyData → Prop
  | non : Dd K H .non .none
  | bl (b : Bool) : Dd K H (.bl b) (.bool b)
  | int (i : Int) : Dd K H (.int i) (.int i)
  | str (x : Str) : Dd K H (.str x) (.str x)
  | lst {a : Addr} {xs : List V} {ds : List PyData} : SqL K H a xs → DdAll K H xs ds → Dd K H (.ref a) (.list ds)
  | tup {a : Addr} {xs : List V} {ds : List PyData} : SqT K H a xs → DdAll K H xs ds → Dd K H (.ref a) (.tuple ds)
  | emp {a : Addr} : H a = some (.dK []) → Dd K H (.ref a) (.dict [])
inductive DdAll (K : PySem.W.Frag) (H : Hp) : List V → List PyData → Prop
  | nil : DdAll K H [] []
  | cons {v : V} {vs : List V} {d : PyData} {ds : List PyData} : Dd K H v d → DdAll K H vs ds → DdAll K H (v :: vs) (d :: ds)
end
section
variable {X : Cx} {pins : List (Addr × Obj)} {σ : L2.St} {H : Hp} {s : Shared}
theorem sys_free (hK : ∃ o, X.K.lookup sysModules = some o ∧ o.cls = .type "dict") (I : Inv X pins σ H s) : H sysModules = none := by
  obtain ⟨o, ho, _⟩ := hK
  exact (I.bs sysModules o (I.ok.mod.kin _ _ ho)).2
theorem sql_nosys (hK : ∃ o, X.K.lookup sysModules = some o ∧ o.cls = .type "dict") (I : Inv X pins σ H s) {a : Addr} {xs : List V} (h : SqL X.K H a xs) : a ≠ sysModules := by
  intro e
  subst e
  rcases h with (h | ⟨o, h⟩) | ⟨o, its, n, h, hc, _⟩
  · rw [sys_free hK I] at h; cases h
  · rw [sys_free hK I] at h; cases h
  · obtain ⟨o2, h2, hc2⟩ := hK
    rw [h] at h2
    cases h2
    rw [hc] at hc2
    exact absurd (Value.type.inj hc2) (by decide)
theorem plainL_at {h : Heap} {a : Addr} {its : Array Value} (p : PlainL h a its) : ∃ o n, h.get? a = some o ∧ o.cls = .type "list" ∧ o.data = .seq its n :=
  let ⟨o, n, e, c, _, q⟩ := p
  ⟨o, n, e, c, q⟩
mutual
theorem Dd.reads (hK : ∃ o, X.K.lookup sysModules = some o ∧ o.cls = .type "dict") (I : Inv X pins σ H s) : ∀ (d : PyData) (v : V) (u : Value), Dd X.K H v d → RelV v u → ∃ as, Reads s.heap u d as ∧ sysModules ∉ as
  | _, _, _, .non, r => by cases r; exact ⟨[], .none, by simp⟩
  | _, _, _, .bl b, r => by cases r; exact ⟨[], .bool b, by simp⟩
  | _, _, _, .int i, r => by obtain ⟨t, rfl⟩ := r; exact ⟨[], .int i t, by simp⟩
  | _, _, _, .str x, r => by obtain ⟨t, rfl⟩ := r; exact ⟨[], .str x t, by simp⟩
  | _, _, _, .lst hl hd, r => by
    cases r
    have hn := sql_nosys hK I hl
    obtain ⟨its, rv, hpl, _⟩ := I.list hl
    obtain ⟨o, n, ho, hc, hda⟩ := plainL_at hpl
    obtain ⟨as, ra, na⟩ := Dd.readsAll hK I _ _ _ hd rv
    exact ⟨_, .list ho hc hda (by simpa using ra), fun hm => by
      rcases List.mem_cons.mp hm with q | q
      · exact hn q.symm
      · exact na q⟩
  | _, _, _, .tup hl hd, r => by
    cases r
    obtain ⟨its, rv, ⟨o, ho, hc, n, hda⟩, _⟩ := I.tuple hl
    obtain ⟨as, ra, na⟩ := Dd.readsAll hK I _ _ _ hd rv
    exact ⟨_, .tuple ho hc hda (by simpa using ra), na⟩
  | _, _, _, .emp (a := a) he, r => by
    cases r
    obtain ⟨_, hs, vs, kv, o, es, ep, ho, hx, hda, _, hp, _⟩ := I.hok _ _ he
    cases kv
    have he : es.toList = [] := by
      generalize es.toList = l at hp
      cases hp
      rfl
    refine ⟨_, .dict (kvs := []) (as := []) (bs := []) ho hx.1 hda (by rw [he]; exact .nil) (by rw [he]; exact .nil), fun hm => ?_⟩
    rcases List.mem_cons.mp hm with q | q
    · rw [q] at hs
      simp at hs
    · simp at q
theorem Dd.readsAll (hK : ∃ o, X.K.lookup sysModules = some o ∧ o.cls = .type "dict") (I : Inv X pins σ H s) : ∀ (ds : List PyData) (vs : List V) (us : List Value), DdAll X.K H vs ds → Vals vs us → ∃ as, ReadsAll s.heap us ds as ∧ sysModules ∉ as
  | _, _, _, .nil, r => by cases r; exact ⟨[], .nil, by simp⟩
  | _, _, _, .cons hd hr, r => by
    cases r with
    | cons r1 r2 =>
      obtain ⟨as, ra, na⟩ := Dd.reads hK I _ _ _ hd r1
      obtain ⟨bs, rb, nb⟩ := Dd.readsAll hK I _ _ _ hr r2
      exact ⟨_, .cons ra rb, fun hm => (List.mem_append.mp hm).elim na nb⟩
end
/-- repr(x) of data -/
def rRepr (K : PySem.W.Frag) : List V → Hp → VK → Prop := fun xs H Q => ∃ (x : V) (d : PyData), xs = [x] ∧ Dd K H x d ∧ d.showable = true ∧ d.depth ≤ 50 ∧ d.shown.length ≤ sizeLine ∧ Q (.str d.shown) H
theorem call_repr {k : Nat} (hgd : X.A.guards = some []) (hr : Room k X.A) (hK : ∃ o, X.K.lookup sysModules = some o ∧ o.cls = .type "dict") : CallR X (.builtin "repr") (rRepr X.K) := by
  intro pins s σ H xs us Q I r h
  obtain ⟨x, d, rfl, hd, hsh, hdp, hsz, q⟩ := h
  obtain ⟨u, rfl, ru⟩ := vals1 r
  obtain ⟨as, hR, hns⟩ := hd.reads hK I _ _ u ru
  have hun := hr.units
  cases hR with
  | none => exact PySem.P.repr_of_none ⟨.str _, H, I.tok _, ⟨_, rfl⟩, q⟩
  | bool b => exact PySem.P.repr_of_bool ⟨.str _, H, I.tok _, ⟨_, rfl⟩, q⟩
  | int i t => exact PySem.P.repr_of_int (of_decide_eq_true hsh) ⟨.str _, H, I.tok _, ⟨_, rfl⟩, q⟩
  | str y t => exact PySem.P.repr_of_str ⟨.str _, H, I.tok _, ⟨_, rfl⟩, q⟩ hsz
  | list h1 h2 h3 h4 =>
    exact repr_of_reads' (.list h1 h2 h3 h4) hsh (fun _ => hns) hgd (by omega) (fun _ _ z => z) (fun h' u' tk kp => ⟨.str _, H, I.kept kp, ⟨_, rfl⟩, q⟩) hsz
  | tuple h1 h2 h3 h4 =>
    exact repr_of_reads' (.tuple h1 h2 h3 h4) hsh (fun _ => hns) hgd (by omega) (fun _ _ z => z) (fun h' u' tk kp => ⟨.str _, H, I.kept kp, ⟨_, rfl⟩, q⟩) hsz
  | dict h1 h2 h3 h4 h5 =>
    exact repr_of_reads' (.dict h1 h2 h3 h4 h5) hsh (fun _ => hns) hgd (by omega) (fun _ _ z => z) (fun h' u' tk kp => ⟨.str _, H, I.kept kp, ⟨_, rfl⟩, q⟩) hsz
end
end AT

set_option maxHeartbeats 4000000
namespace AT
open PySem PySem.Spec PyProof.Rows L2
/-- the law's call, from its def's promise -/
theorem lawG {P : Program} {w : World} {K : PySem.W.Frag} {mg mb : Str → Option Value} {CX : CXT} {k : Nat} {fa a : Addr} {fd : FuncData} {x : Str} {sp : Sp} {st : Shared} {vs : List Value} {ns : List Int}
    (KI : K.In st.heap) (hG : st.heap.Ns mainGlobals mg) (hB : st.heap.Ns builtinsNs mb) (hBb : ∀ x : Str, x ≠ "__name__" → mb x = bootBuiltins x) (hNl : st.heap.NoLimit) (hgs : st.gens = #[])
    (hob : st.heap.get? a = some { cls := .type "list", data := .seq vs.toArray }) (hin : IntsAre vs ns) (hsz : ns.length ≤ sizeLine) (hr : Room k callerA)
    (F : ∀ base : Heap, K.In base → base.Ns mainGlobals mg → FnG P w K mg base CX k fa fd [x] sp) (hbd : ∀ (s : Shared) (u : Value), BindsTo s fd ⟨[u], []⟩ [(x, u)])
    (hsp : ∀ H : Hp, Only H → SqL K H a (ns.map V.int) → sp [.ref a] H (fun v _ => v = .bl true) fun _ _ _ => False)
    (hno : ∀ H e s', CX [] H st (fun _ _ _ => False) e s' → False) :
    codeAny (model P w) callerA (.call (.ref fa) ⟨[.ref a], []⟩) (fun r s' => r = .ok (.ret (.bool true)) ∧ OldK st.heap s'.heap ∧ s'.os = st.os ∧ AllBare s'.gens) st := by
  have rv := vals_ints hin
  have main : ∀ H : Hp, Only H → SqL K H a (ns.map V.int) → HOk P w H st.heap → (∀ b, H b ≠ none → b = a) → (H a ≠ none → K.lookup a = none) →
      codeAny (model P w) callerA (.call (.ref fa) ⟨[.ref a], []⟩) (fun r s' => r = .ok (.ret (.bool true)) ∧ OldK st.heap s'.heap ∧ s'.os = st.os ∧ AllBare s'.gens) st := by
    intro H hO hS hok hA hKa
    have free : ∀ {b : Addr} {o : Obj} {es : Array DictEntry} {ep : Nat}, st.heap.get? b = some o → o.data = .dict es ep → H b = none := by
      intro b o es ep e d
      cases q : H b with
      | none => rfl
      | some u =>
        obtain rfl : b = a := hA b (by rw [q]; exact Option.some_ne_none u)
        rw [hob] at e
        cases e
        cases d
    have nsH : ∀ {b : Addr} {m : Str → Option Value}, st.heap.Ns b m → (hidT st.heap H).Ns b m := by
      rintro b m ⟨o, es, ep, e, d, rr⟩
      exact ⟨o, es, ep, hidT_get e (free e d), d, rr⟩
    have KH : K.In (hidT st.heap H) := by
      intro b o e
      refine hidT_get (KI b o e) ?_
      cases q : H b with
      | none => rfl
      | some u =>
        obtain rfl : b = a := hA b (by rw [q]; exact Option.some_ne_none u)
        rw [hKa (by rw [q]; exact Option.some_ne_none u)] at e
        cases e
    have hM : Mod K mg (hidT st.heap H) := by
      obtain ⟨mc, h1, h2⟩ := hNl
      exact ⟨KH, nsH hG, ⟨mb, nsH hB, hBb⟩, ⟨mc, nsH h1, h2⟩⟩
    have e0 : Env0 P w K mg (hidT st.heap H) callerA [] st H :=
      { frames := rfl, mod := hM, bs := fun b o e => of_hidT e, bsz := Nat.le_of_eq (hidT_size _ _), funs := trivial, frf := (by intro b hb; exact absurd hb (by simp [frs])), hok := hok, bare := .of_eq hgs }
    refine codeAny_mono ((F _ KH (nsH hG)).run callerA [] st H ⟨[.ref a], []⟩ [.ref a] [.ref a] _ _ rfl hr e0 (hbd st (.ref a)) (.cons rfl .nil) (hsp H hO hS)) fun r s' h => ?_
    cases r with
    | error e => exact (hno H e s' h).elim
    | ok fl =>
      cases fl with
      | ret u =>
        obtain ⟨v, H', eos, br, un, hok', r', q⟩ := h
        obtain rfl : v = .bl true := q
        obtain rfl : u = Value.bool true := r'
        refine ⟨rfl, OldK.of_keep fun b o e => ?_, eos, br⟩
        cases q : H b with
        | none => exact un.keep b o e q (by simp [frs]) (by simp)
        | some u =>
          rcases hO b with z | ⟨ob, xs, z⟩
          · rw [q] at z
            cases z
          · have y2 := (hok' b _ (un.frzs b ob _ z)).1
            have y1 := (hok b _ z).1
            rw [e] at y1
            cases y1
            exact y2
      | _ => exact False.elim h
  cases hk : K.lookup a with
  | some o =>
    have e := KI a o hk
    rw [hob] at e
    cases e
    refine main (fun _ => none) (fun _ => .inl rfl) (.inr ⟨_, vs.toArray, _, hk, rfl, rfl, rfl, ?_, by simpa using rv⟩) ?_ (fun b z => absurd rfl z) fun z => absurd rfl z
    · rw [List.size_toArray, hin.length]
      exact hsz
    · intro b u z
      exact nomatch (show (none : Option HO) = some u from z)
  | none =>
    let o1 : Obj := { cls := .type "list", data := .seq vs.toArray }
    refine main (fun b => if b = a then some (.frz o1 (.lst (ns.map V.int))) else none) (fun b => ?_) (.inl (.inr ⟨o1, if_pos rfl⟩)) (fun b u z => ?_) (fun b z => ?_) fun _ => hk
    · by_cases hb : b = a
      · exact .inr ⟨_, _, if_pos hb⟩
      · exact .inl (if_neg hb)
    · by_cases hb : b = a
      · have y := (if_pos hb).symm.trans z
        cases y
        subst hb
        exact ⟨hob, by rw [List.length_map]; exact hsz, vs, _, rv, hob⟩
      · have y := (if_neg hb).symm.trans z
        cases y
    · by_cases hb : b = a
      · exact hb
      · exact absurd (if_neg hb) z
theorem walkG {l : PySem.W.OpenLaw} {n k : Nat} {q : Program} {loose : List Str} {XP : (Str → Option Value) → Heap → Prop} {YP : World → Heap → Prop} {d : DefRec} {CX : World → CXT} {x : Str}
    (hn : l.most = some n) (hn2 : n ≤ sizeLine) (hdf : d.params.defaults = []) (hr : Room k callerA)
    (F : ∀ (w : World) (mg : Str → Option Value) (fa : Addr) (h : Heap), YP w h → h.Ns mainGlobals mg → mg d.name = some (.ref fa) →
      ∃ (K : PySem.W.Frag) (fd : FuncData) (sp : Sp), K.In h ∧ (∀ (s : Shared) (u : Value), BindsTo s fd ⟨[u], []⟩ [(x, u)]) ∧
        (∀ (H : Hp) (a : Addr) (ns : List Int), ns.length ≤ n → Only H → SqL K H a (ns.map V.int) → sp [.ref a] H (fun v _ => v = .bl true) fun _ _ _ => False) ∧
        ∀ base : Heap, K.In base → base.Ns mainGlobals mg → FnG l.prog w K mg base (CX w) k fa fd [x] sp)
    (hno : ∀ (w : World) (H : Hp) (s : Shared) (e : Value) (s' : Shared), CX w [] H s (fun _ _ _ => False) e s' → False) :
    PySem.W.WalkO q loose XP YP l.row.toRowW d [] (fun f vs => PySem.call f vs) := by
  refine Att.attach_call hn hdf fun w _ st mg mb fa o pm cd doc a vs ns G Y _ _ _ hmg hob hin hlen hgs => ?_
  obtain ⟨K, fd, sp, KI, hbd, hsp, hF⟩ := F w mg fa _ Y G.T.g hmg
  exact lawG KI G.T.g G.T.b G.T.builtins G.T.nolimit hgs hob hin (Nat.le_trans hlen hn2) hr hF hbd (fun H hO hS => hsp H a ns hlen hO hS) fun H e s' => hno w H st e s'
theorem cx_false {P : Program} {w : World} {outer : List Env} {H : Hp} {s : Shared} {e : Value} {s' : Shared} (h : L2.CX P w outer H s (fun _ _ _ => False) e s') : False := by
  obtain ⟨_, _, _, _, _, _, _, _, _, _, _, _, z⟩ := h
  exact z
end AT

set_option maxHeartbeats 4000000
namespace AT
open PySem PySem.Spec PyProof.Rows L2
/-- a def that keeps a promise, and how it is called with all its parameters -/
def Ok (P : Program) (w : World) (K : PySem.W.Frag) (mg : Str → Option Value) (base : Heap) (k : Nat) (f : Addr) (ps : List Str) (sp : Sp) : Prop :=
  ∃ fd, FnOk P w K mg base (L2.CX P w) k f fd ps sp ∧ Binds K fd ps [] ∧ PySem.W.keepIn K (.ref f) = true
/-- .. with its last parameters left to their defaults dvs -/
def OkD (P : Program) (w : World) (K : PySem.W.Frag) (mg : Str → Option Value) (base : Heap) (k : Nat) (f : Addr) (ps : List Str) (dvs : List V) (sp : Sp) : Prop :=
  ∃ fd ds, FnOk P w K mg base (L2.CX P w) k f fd ps sp ∧ Vals dvs ds ∧ Binds K fd ps ds ∧ PySem.W.keepIn K (.ref f) = true
/-- .. where no repr is under way -/
def OkG (P : Program) (w : World) (K : PySem.W.Frag) (mg : Str → Option Value) (base : Heap) (k : Nat) (f : Addr) (ps : List Str) (sp : Sp) : Prop :=
  ∃ fd, FnG P w K mg base (L2.CX P w) k f fd ps sp ∧ Binds K fd ps [] ∧ PySem.W.keepIn K (.ref f) = true
section
variable {X : Cx} {k : Nat} {f C : Addr} {ps : List Str} {sp : Sp} {dvs : List V} {E : XK} {x m : Str} {p pos apos : Pos} {e o : Expr} {es : List Expr} {ta : TE} {t : TA}
theorem ok_call (F : Ok X.prog X.w X.K X.mg X.base k f ps sp) (hr : Room k X.A) (hg : Gl X x) (hm : X.mg x = some (.ref f)) (hx : Passes (L2.CX X.prog X.w) X E) (ha : PA X (e :: es) t)
    (hdb : (x == ("__debug__" : Str)) = false := by decide) (hst : starEach (e :: es) X.env = (false, eval e X.env) :: starEach es X.env := by rfl) (hns : (backTo pos (starEach es X.env)).any (·.1) = false := by rfl) :
    PE X (.Call (.Name x p) (e :: es) [] pos) (tCall sp [] E t) := by
  obtain ⟨fd, F1, b, kp⟩ := F
  exact pe_call F1 hr hg hm kp b .nil hx ha hdb hst hns
theorem ok_call0 (F : Ok X.prog X.w X.K X.mg X.base k f [] sp) (hr : Room k X.A) (hg : Gl X x) (hm : X.mg x = some (.ref f)) (hx : Passes (L2.CX X.prog X.w) X E)
    (hdb : (x == ("__debug__" : Str)) = false := by decide) : PE X (.Call (.Name x p) [] [] pos) (tCall sp [] E tNil) := by
  obtain ⟨fd, F1, b, kp⟩ := F
  exact pe_call0 F1 hr hg hm kp b .nil hx hdb
theorem ok_callG (F : OkG X.prog X.w X.K X.mg X.base k f ps sp) (hgd : X.A.guards = some []) (hr : Room k X.A) (hg : Gl X x) (hm : X.mg x = some (.ref f)) (hx : Passes (L2.CX X.prog X.w) X E) (ha : PA X (e :: es) t)
    (hdb : (x == ("__debug__" : Str)) = false := by decide) (hst : starEach (e :: es) X.env = (false, eval e X.env) :: starEach es X.env := by rfl) (hns : (backTo pos (starEach es X.env)).any (·.1) = false := by rfl) :
    PE X (.Call (.Name x p) (e :: es) [] pos) (tCall sp [] E t) := by
  obtain ⟨fd, F1, b, kp⟩ := F
  exact pe_callG F1 hgd hr hg hm kp b .nil hx ha hdb hst hns
theorem ok_callG0 (F : OkG X.prog X.w X.K X.mg X.base k f [] sp) (hgd : X.A.guards = some []) (hr : Room k X.A) (hg : Gl X x) (hm : X.mg x = some (.ref f)) (hx : Passes (L2.CX X.prog X.w) X E)
    (hdb : (x == ("__debug__" : Str)) = false := by decide) : PE X (.Call (.Name x p) [] [] pos) (tCall sp [] E tNil) := by
  obtain ⟨fd, F1, b, kp⟩ := F
  exact pe_callG0 F1 hgd hr hg hm kp b .nil hx hdb
/-- in a try's body -/
theorem ok_callS {W : WX} (F : Ok X.prog X.w X.K X.mg X.base k f ps sp) (hr : Room k X.A) (hg : Gl X x) (hm : X.mg x = some (.ref f)) (tk : Takes X W) (ha : PA X (e :: es) t)
    (hdb : (x == ("__debug__" : Str)) = false := by decide) (hst : starEach (e :: es) X.env = (false, eval e X.env) :: starEach es X.env := by rfl) (hns : (backTo pos (starEach es X.env)).any (·.1) = false := by rfl) :
    PE X (.Call (.Name x p) (e :: es) [] pos) (tCallSD sp [] (fun σ cls d H => W cls d σ H) t) := by
  obtain ⟨fd, F1, b, kp⟩ := F
  exact pe_callSD F1 hr hg hm kp b .nil (fun σ => passAt tk σ) ha hdb hst hns
/-- C(e, ..) -/
theorem ok_make (M : Mk X.K C f) (F : Ok X.prog X.w X.K X.mg X.base k f ps sp) (hr : Room (k + 1) X.A) (hg : Gl X x) (hm : X.mg x = some (.ref C)) (hx : Passes (L2.CX X.prog X.w) X E) (ha : PA X (e :: es) t)
    (hdb : (x == ("__debug__" : Str)) = false := by decide) (hst : starEach (e :: es) X.env = (false, eval e X.env) :: starEach es X.env := by rfl) (hns : (backTo pos (starEach es X.env)).any (·.1) = false := by rfl) :
    PE X (.Call (.Name x p) (e :: es) [] pos) (tMake C sp [] E t) := by
  obtain ⟨fd, F1, b, kp⟩ := F
  exact pe_make M F1 hr hg hm b .nil hx ha hdb hst hns
theorem ok_makeD (M : Mk X.K C f) (F : OkD X.prog X.w X.K X.mg X.base k f ps dvs sp) (hr : Room (k + 1) X.A) (hg : Gl X x) (hm : X.mg x = some (.ref C)) (hx : Passes (L2.CX X.prog X.w) X E) (ha : PA X (e :: es) t)
    (hdb : (x == ("__debug__" : Str)) = false := by decide) (hst : starEach (e :: es) X.env = (false, eval e X.env) :: starEach es X.env := by rfl) (hns : (backTo pos (starEach es X.env)).any (·.1) = false := by rfl) :
    PE X (.Call (.Name x p) (e :: es) [] pos) (tMake C sp dvs E t) := by
  obtain ⟨fd, ds, F1, vd, b, kp⟩ := F
  exact pe_make M F1 hr hg hm b vd hx ha hdb hst hns
/-- o.f, a property -/
theorem ok_prop {g : Addr} (c : Cls X.K C) (hp : ∃ q, PropOf X.K C m q g) (F : Ok X.prog X.w X.K X.mg X.base k g [("self" : Str)] sp) (hr : Room (k + 1) X.A) (he : PE X e ta)
    (hab : attributeBase e m X.env (eval e X.env) = eval e X.env := by rfl) : PE X (.Attribute e m pos) (tProp C sp [] E0 ta) := by
  obtain ⟨q, hq⟩ := hp
  obtain ⟨fd, F1, b, kp⟩ := F
  exact pe_prop he c hq F1 hr b .nil passL hab
end
/-- all that the body's proof gives: a def's promise -/
theorem mk_ok {P : Program} {w : World} {K : PySem.W.Frag} {mg : Str → Option Value} {base : Heap} {x qual : Str} {st : Stmt} {kws : List (Str × V)} {f : Addr} {N ps : List Str} {k : Nat} {sp : Sp}
    (F : ∃ fd, FunD K x qual (defArgs st) (defBody st) (defScope st) [] kws f fd) (S : FnScope N ps (defScope st))
    (hb : ∀ (kV doc pm : Value) (an : Option Addr) (cdv ct : Value) (us : List Value), us.length = ps.length → bindArgs (PySem.W.fnOf x qual (defArgs st) (defBody st) (defScope st) .none kV doc pm an cdv ct) ⟨us, []⟩ = pure (ps.zip us))
    (len : ∀ vs H Q E, sp vs H Q E → vs.length = ps.length)
    (body : ∀ (cdv : Value) (A : Around) (outer : List Env) (s : Shared) (H : Hp) (vs : List V) (Q : VK) (E : XK), Room k (A.deeper (envOfC qual (defScope st) s.heap.objs.size f cdv)) → sp vs H Q E →
      ∃ t, PSs (cxOf (L2.CX P w) P w K mg base N qual (defScope st) f cdv A outer s H E) (defBody st) t ∧ t { nx := fun _ H' => Q .non H', rt := Q } (start N vs) H) : Ok P w K mg base (k + 1) f ps sp := by
  obtain ⟨fd, F⟩ := F
  exact ⟨fd, F.ok S len body, F.bindsN hb, F.kp⟩
theorem mk_okG {P : Program} {w : World} {K : PySem.W.Frag} {mg : Str → Option Value} {base : Heap} {x qual : Str} {st : Stmt} {kws : List (Str × V)} {f : Addr} {N ps : List Str} {k : Nat} {sp : Sp}
    (F : ∃ fd, FunD K x qual (defArgs st) (defBody st) (defScope st) [] kws f fd) (S : FnScope N ps (defScope st))
    (hb : ∀ (kV doc pm : Value) (an : Option Addr) (cdv ct : Value) (us : List Value), us.length = ps.length → bindArgs (PySem.W.fnOf x qual (defArgs st) (defBody st) (defScope st) .none kV doc pm an cdv ct) ⟨us, []⟩ = pure (ps.zip us))
    (len : ∀ vs H Q E, sp vs H Q E → vs.length = ps.length)
    (body : ∀ (cdv : Value) (A : Around) (outer : List Env) (s : Shared) (H : Hp) (vs : List V) (Q : VK) (E : XK), (A.deeper (envOfC qual (defScope st) s.heap.objs.size f cdv)).guards = some [] → Room k (A.deeper (envOfC qual (defScope st) s.heap.objs.size f cdv)) → sp vs H Q E →
      ∃ t, PSs (cxOf (L2.CX P w) P w K mg base N qual (defScope st) f cdv A outer s H E) (defBody st) t ∧ t { nx := fun _ H' => Q .non H', rt := Q } (start N vs) H) : OkG P w K mg base (k + 1) f ps sp := by
  obtain ⟨fd, F⟩ := F
  exact ⟨fd, okG F S len (fun cdv A outer s H vs Q E hg => body cdv A outer s H vs Q E hg), F.bindsN hb, F.kp⟩
theorem Ok.mono {P : Program} {w : World} {K : PySem.W.Frag} {mg : Str → Option Value} {base : Heap} {j k : Nat} {f : Addr} {ps : List Str} {sp : Sp} (F : Ok P w K mg base j f ps sp) (h : j ≤ k) : Ok P w K mg base k f ps sp := by
  obtain ⟨fd, F1, b, kp⟩ := F
  exact ⟨fd, F1.mono h, b, kp⟩
theorem Ok.imp {P : Program} {w : World} {K : PySem.W.Frag} {mg : Str → Option Value} {base : Heap} {k : Nat} {f : Addr} {ps : List Str} {sp sp' : Sp} (F : Ok P w K mg base k f ps sp) (h : ∀ vs H Q E, sp' vs H Q E → sp vs H Q E) : Ok P w K mg base k f ps sp' := by
  obtain ⟨fd, F1, b, kp⟩ := F
  exact ⟨fd, F1.imp h, b, kp⟩
/-- an exception's class, made anywhere -/
theorem mk_X {X : Cx} {x f : Str} {k : Nat} (T : Xc X.K x f) (hm : X.mg x = some (.ref (He.ga X.K x))) (F : Ok X.prog X.w X.K X.mg X.base k (He.ma X.K (He.ga X.K x) "__init__") [("self" : Str), f] (spXi X.K (He.ga X.K x) f)) (hr : Room (k + 1) X.A) (hdb : (x == ("__debug__" : Str)) = false := by decide) : MkX X x f := by
  obtain ⟨fd, F1, b, kp⟩ := F
  exact mkX_of T hm F1 b hr hdb
/-- what a callee lets out leaves the def -/
theorem passE {X : Cx} {E : XK} {E1 : Value → Shared → Prop} (hs : X.stack = X.env :: X.outer) (hf : X.env.frame = some X.env.locals) (hex : X.ex = []) (hx : X.xe = fun e s' => wpAny (model X.prog X.w) X.A (leaving X.env e) (fun _ s'' => L2.CX X.prog X.w X.outer X.H_0 X.s_0 E e s'') E1 s') : Passes (L2.CX X.prog X.w) X E :=
  passes_call (takes_of hs hf hex hx) (fun _ _ _ _ z => z)
end AT
namespace AT
open PySem PySem.Spec PyProof.Rows L2
theorem pe_k {X : Cx} {x : Str} {v : V} {pos : Pos} (h : ∃ u, X.mg x = some u ∧ RelV v u) (hg : Gl X x := by rfl) (hd : (x == ("__debug__" : Str)) = false := by decide) : PE X (.Name x pos) (tC v) := by
  obtain ⟨u, hu, r⟩ := h
  exact pe_glob hg hu r hd
/-- // by a divisor of any sign, not 0, below 2 ^ 9000 -/
def CDivZ (_ j : Int) : Prop := j ≠ 0 ∧ j.natAbs.log2 < 9000
theorem op_fdivZ {X : Cx} : OpR X (binaryOp .FloorDiv) (rI CDivZ fun i j => .int (i.fdiv j)) := opI fun _ _ _ _ _ _ _ hc q => floordiv_int hc.1 q (.inl (PyProof.noPylong_of_log2 hc.2))
end AT
namespace AT
open PySem PySem.Spec PyProof.Rows L2
theorem pe_gr {X : Cx} {x : Str} {a : Addr} {pos : Pos} (h : X.mg x = some (.ref a)) (hg : Gl X x := by rfl) (hd : (x == ("__debug__" : Str)) = false := by decide) : PE X (.Name x pos) (tC (.ref a)) := pe_glob hg h rfl hd
end AT
namespace AT
open PySem PySem.Spec PyProof.Rows L2
/-- a def with one default v: called with it left out, and with all given -/
theorem mk_okD1 {P : Program} {w : World} {K : PySem.W.Frag} {mg : Str → Option Value} {base : Heap} {x qual : Str} {st : Stmt} {kws : List (Str × V)} {v : V} {f : Addr} {N ps : List Str} {k n : Nat} {sp : Sp}
    (F : ∃ fd, FunD K x qual (defArgs st) (defBody st) (defScope st) [v] kws f fd) (S : FnScope N ps (defScope st)) (hn : n + 1 = ps.length)
    (hb : ∀ (T : Addr) (kV doc pm : Value) (an : Option Addr) (cdv ct : Value) (us : List Value) (u : Value), us.length = n → ∃ k, bindArgs (PySem.W.fnOf x qual (defArgs st) (defBody st) (defScope st) (.ref T) kV doc pm an cdv ct) ⟨us, []⟩ = seqItems? (.ref T) >>= k ∧ k (some #[u]) = pure (ps.zip (us ++ [u])))
    (hb2 : ∀ (T : Addr) (kV doc pm : Value) (an : Option Addr) (cdv ct : Value) (us : List Value) (u : Value), us.length = n + 1 → ∃ k, bindArgs (PySem.W.fnOf x qual (defArgs st) (defBody st) (defScope st) (.ref T) kV doc pm an cdv ct) ⟨us, []⟩ = seqItems? (.ref T) >>= k ∧ k (some #[u]) = pure (ps.zip us))
    (len : ∀ vs H Q E, sp vs H Q E → vs.length = ps.length)
    (body : ∀ (cdv : Value) (A : Around) (outer : List Env) (s : Shared) (H : Hp) (vs : List V) (Q : VK) (E : XK), Room k (A.deeper (envOfC qual (defScope st) s.heap.objs.size f cdv)) → sp vs H Q E →
      ∃ t, PSs (cxOf (L2.CX P w) P w K mg base N qual (defScope st) f cdv A outer s H E) (defBody st) t ∧ t { nx := fun _ H' => Q .non H', rt := Q } (start N vs) H) :
    Ok P w K mg base (k + 1) f ps sp ∧ OkD P w K mg base (k + 1) f ps [v] sp := by
  obtain ⟨fd, F⟩ := F
  have one : ∀ its : List Value, its.length = 1 → ∃ u, its = [u] := fun its h => List.length_eq_one_iff.mp h
  constructor
  · obtain ⟨ds, vd, b⟩ := F.binds1 (ps := ps) (n + 1) 1 (by simp) (by simpa using hn) (fun T kV doc pm an cdv ct us its h1 h2 => by
      obtain ⟨u, rfl⟩ := one its h2
      obtain ⟨k, e1, e2⟩ := hb2 T kV doc pm an cdv ct us u h1
      exact ⟨k, e1, by simpa using e2⟩)
    cases vd
    exact ⟨fd, F.ok S len body, b, F.kp⟩
  · obtain ⟨ds, vd, b⟩ := F.binds1 (ps := ps) n 0 (by simp) (by simpa using hn) (fun T kV doc pm an cdv ct us its h1 h2 => by
      obtain ⟨u, rfl⟩ := one its h2
      obtain ⟨k, e1, e2⟩ := hb T kV doc pm an cdv ct us u h1
      exact ⟨k, e1, by simpa using e2⟩)
    exact ⟨fd, ds, F.ok S len body, vd, b, F.kp⟩
end AT

set_option maxHeartbeats 4000000
namespace AT
open PySem PySem.Spec PyProof.Rows L2
theorem Same.new {H H' : Hp} {p : Addr} {o : HO} (s : Same H H') (hp : H p = none) : Same H (upd H' p o) := fun b u e => by
  rw [upd_ne (ne_of_none e hp)]
  exact s b u e
theorem Same.up {H : Hp} {p : Addr} {o : HO} (hp : H p = none) : Same H (upd H p o) := Same.new (Same.refl H) hp
theorem Same.tup {K : PySem.W.Frag} {H H' : Hp} {a : Addr} {xs : List V} (e : Same H H') (h : SqT K H a xs) : SqT K H' a xs := by
  rcases h with (h | ⟨o, h⟩) | h
  · exact .inl (.inl (e _ _ h))
  · exact .inl (.inr ⟨o, e _ _ h⟩)
  · exact .inr h
/-- the part of a list that is through, filtered and mapped -/
theorem take_step {α β : Type} {l : List α} {i : Nat} {x : α} (p : α → Bool) (f : α → β) (h : l[i]? = some x) :
    ((l.take (i + 1)).filter p).map f = ((l.take i).filter p).map f ++ (if p x then [f x] else []) := by
  rw [List.take_add_one, h, Option.toList_some, List.filter_append, List.map_append]
  congr 1
  cases hp : p x <;> simp [List.filter, hp]
/-- a comprehension over a text whose element and test only make new objects; the target a name in slot j -/
theorem lc_text {z : Str} {tt : TT} {te : TE} {j : Nat} {vs : List Nat} {σ : L2.St} {H1 : Hp} {D : Addr} {Qd : Hp → Prop} (p : Nat → Bool) (f : Nat → V) (hz : z.cps.size < sizeLine) (hD : H1 D = none)
    (hw : ∀ x, wipe ((wipe σ vs).set j (some x)) vs = wipe σ vs)
    (ht : ∀ (c : Nat) (H : Hp) (R : Bool → Hp → Prop), c ∈ z.cps.toList → Same H1 H → (∀ H', Same H H' → R (p c) H') → tt ((wipe σ vs).set j (some (.str ⟨#[c]⟩))) H R)
    (he : ∀ (c : Nat) (H : Hp) (R : VK), c ∈ z.cps.toList → Same H1 H → (∀ H', Same H H' → R (f c) H') → te ((wipe σ vs).set j (some (.str ⟨#[c]⟩))) H R)
    (hd : ∀ H, Same H1 H → H D = some (.lst ((z.cps.toList.filter p).map f)) → Qd H) :
    ∃ W : Nat → Nat → Hp → Prop, (∃ m, W 0 m (upd H1 D (.lst []))) ∧ ∀ i m H, W i m H →
      ((Its z).stop i H ∧ Qd H) ∨ ((Its z).go i H ∧ ∃ Nx : Hp → Prop, (∀ H', Nx H' → ∃ m', m' < m ∧ W (i + 1) m' H') ∧ ∀ x H', (Its z).yld i H x H' → gName j x (wipe σ vs) H' fun σ2 H2 => wipe σ2 vs = wipe σ vs ∧ tt σ2 H2 fun b H3 =>
        if b = true then te σ2 H3 fun y H4 => ∃ acc, H4 D = some (.lst acc) ∧ acc.length < sizeLine ∧ Nx (upd H4 D (.lst (acc ++ [y]))) else Nx H3) := by
  refine lc_it walk_str (fun i H => Same H1 H ∧ H D = some (.lst (((z.cps.toList.take i).filter p).map f))) ⟨Same.up hD, by rw [upd_same]; rfl⟩ (fun _ _ _ _ => trivial) (fun i x H H' hi hP hY => ?_) (fun H hP => ?_)
  · obtain ⟨sm, hl⟩ := hP
    obtain ⟨rfl, c, hc, rfl⟩ := hY
    have hc' : z.cps.toList[i]? = some c := by rw [Array.getElem?_toList]; exact hc
    have hm : c ∈ z.cps.toList := List.mem_of_getElem? hc'
    have hst := take_step p f hc'
    refine ⟨hw _, ht c H' _ hm sm fun H2 s2 => ?_⟩
    cases hp : p c with
    | false =>
      refine iteF ⟨sm.trans s2, ?_⟩
      rw [hst, hp]
      simpa using s2 _ _ hl
    | true =>
      refine iteT (he c H2 _ hm (sm.trans s2) fun H3 s3 => ⟨_, s3 _ _ (s2 _ _ hl), ?_, ?_, ?_⟩)
      · have h1 : (((z.cps.toList.take i).filter p).map f).length ≤ z.cps.toList.length := by
          rw [List.length_map]
          exact Nat.le_trans (List.length_filter_le _ _) (by rw [List.length_take]; exact Nat.min_le_right _ _)
        have h2 : z.cps.toList.length = z.cps.size := Array.length_toList
        omega
      · exact AT.Same.new ((sm.trans s2).trans s3) hD
      · rw [upd_same, hst, hp]
        rfl
  · obtain ⟨sm, hl⟩ := hP
    have e : z.cps.toList.take z.cps.size = z.cps.toList := by
      rw [← Array.length_toList, List.take_length]
    rw [e] at hl
    exact hd H sm hl
end AT

set_option maxHeartbeats 4000000
namespace AT
open PySem PySem.Spec PyProof.Rows L2
open AutoSeq1 (wpAny_loadPart')
theorem str_declines (z : Str) (u : Tok) (l : Addr) (o : Obj) (es : Array DictEntry) (n : Nat) :
    Meets (Builtin.«str.__eq__» ⟨[.str z u, .ref l], []⟩) (fun _ R s => s.heap.get? l = some o ∧ o.data = .dict es n ∧ R (.ok (.ret .notImplemented)) s) :=
  .of_wp fun prog w A R s h => by
    obtain ⟨hp, g, d, tk, os⟩ := s
    obtain ⟨hl, hc, h⟩ := h
    wp_walk using wpAny_loadPart' hl, wpAny_load hl
    rw [hc]
    wp_walk
    exact ⟨_, rfl, h⟩
section
variable {prog : Program} {w : World} {A : Around} {E : Value → Shared → Prop} {s : Shared}
theorem dict_declines {a : Addr} {z : Str} {u : Tok} {Q : Value → Shared → Prop} (ha : s.TypeIs (.ref a) "dict") (q : Q .notImplemented s) : wpAny (model prog w) A (call (.builtin "dict.__eq__") [.ref a, .str z u]) Q E s := by
  refine wpAny_call_entry PySem.F.slot_dict_eq ha PySem.F.entry_dict_eq ?_ (PySem.F.args_dict_eq_2 _ _)
  show wpAny _ _ (Builtin.Dict.dictSlotArgs "__eq__" ⟨[.ref a, .str z u], []⟩ >>= _) _ _ s
  refine wpAny_bind ?_
  unfold Builtin.Dict.dictSlotArgs
  refine wpAny_bind (wpAny_notOrdered_dict ha ?_)
  show wpAny _ _ (pure (Value.ref a, Value.str z u)) _ _ s
  refine wpAny_pure ?_
  refine wpAny_bind (wpAny_isInstance (T := "str") (typeIs_str s z u) PySem.F.sub_str_dict ?_)
  simp only [Bool.not_false, if_true]
  refine wpAny_bind (wpAny_rule ?_)
  exact wpAny_pure ⟨_, rfl, q⟩
end
/-- an empty dict is unlike a text -/
theorem eq_emp {X : Cx} {pins : List (Addr × Obj)} {σ : L2.St} {H : Hp} {s : Shared} {a : Addr} {z : Str} {u : Tok} {Q : Value → Shared → Prop} {E : Value → Shared → Prop} (I : Inv X pins σ H s) (hu : X.A.units < cLine) (he : H a = some (.dK [])) (q : Q (.bool false) s) :
    wpAny (model X.prog X.w) X.A (compareOp .Eq (.ref a) (.str z u)) Q E s := by
  obtain ⟨_, hs, vs, kv, o, es, ep, ho, hx, hda, _, hp, _⟩ := I.hok _ _ he
  show wpAny _ _ (richCompare .Eq _ _) _ _ _
  have ty : s.TypeIs (.ref a) "dict" := ⟨o, ho, hx.1⟩
  exact SeqAt.rc_eq_decline_or (k := false) ty (typeIs_str s z u) (by decide) PySem.F.sub_str_dict PySem.F.slot_dict_eq PySem.F.slot_str_eq_refl
    (fun _ hq => dict_declines ty hq)
    (fun _ hq => call_meets PySem.F.slot_str_eq_refl (typeIs_str s z u) PySem.F.entry_str_eq (PySem.F.args_str_eq_2 _ _) (str_declines z u a o es ep) ⟨ho, hda, hq⟩)
    (fun _ hq => wpAny_of_eq (rfl : isSame (.ref a) (.str z u) = pure false) hq) (.inr hu) q
/-- x == z of data x, and of an empty dict, and a text z -/
def rEqZ (K : PySem.W.Frag) : R2 := fun x y H Q => ∃ z, y = .str z ∧ ((∃ d, Dp K H x d ∧ SeqAt.shaped d = true ∧ PyData.strOk z = true ∧ Q (.bl (PyData.eqv d (.str z))) H) ∨ ∃ a, x = .ref a ∧ H a = some (.dK []) ∧ Q (.bl false) H)
theorem op_eqZ {X : Cx} (hu : X.A.units + 64 < cLine) : OpR X (compareOp .Eq) (rEqZ X.K) := by
  intro pins s σ H x y v u Q I rx ry h
  obtain ⟨z, rfl, ⟨d, hd, sd, so, q⟩ | ⟨a, rfl, he, q⟩⟩ := h
  · refine op_eqD hu pins s σ H x (.str z) v u Q I rx ry ⟨d, _, hd, .str z, sd, ?_, q⟩
    show (PyData.strOk z && decide (0 ≤ 64)) = true
    rw [so]
    rfl
  · cases rx
    obtain ⟨t, rfl⟩ := ry
    exact eq_emp I (by omega) he ⟨.bl false, H, I, rfl, q⟩
end AT

set_option maxHeartbeats 4000000
namespace AT
open PySem PySem.Spec PyProof.Rows L2
/-- the law's call, from its def's promise -/
theorem lawO {P : Program} {w : World} {K : PySem.W.Frag} {mg mb : Str → Option Value} {CX : CXT} {k : Nat} {fa a : Addr} {x : Str} {sp : Sp} {st : Shared} {vs : List Value} {ns : List Int}
    (KI : K.In st.heap) (hG : st.heap.Ns mainGlobals mg) (hB : st.heap.Ns builtinsNs mb) (hBb : ∀ x : Str, x ≠ "__name__" → mb x = bootBuiltins x) (hNl : st.heap.NoLimit) (hgs : st.gens = #[])
    (hob : st.heap.get? a = some { cls := .type "list", data := .seq vs.toArray }) (hin : IntsAre vs ns) (hsz : ns.length ≤ sizeLine) (hr : Room k callerA)
    (F : ∀ base : Heap, K.In base → base.Ns mainGlobals mg → ∃ fd, FnG P w K mg base CX k fa fd [x] sp ∧ Binds K fd [x] [])
    (hsp : ∀ H : Hp, Only H → SqL K H a (ns.map V.int) → sp [.ref a] H (fun v _ => v = .bl true) fun _ _ _ => False)
    (hno : ∀ H e s', CX [] H st (fun _ _ _ => False) e s' → False) :
    codeAny (model P w) callerA (.call (.ref fa) ⟨[.ref a], []⟩) (fun r s' => r = .ok (.ret (.bool true)) ∧ OldK st.heap s'.heap ∧ s'.os = st.os ∧ AllBare s'.gens) st := by
  have rv := vals_ints hin
  have main : ∀ H : Hp, Only H → SqL K H a (ns.map V.int) → HOk P w H st.heap → (∀ b, H b ≠ none → b = a) → (H a ≠ none → K.lookup a = none) →
      codeAny (model P w) callerA (.call (.ref fa) ⟨[.ref a], []⟩) (fun r s' => r = .ok (.ret (.bool true)) ∧ OldK st.heap s'.heap ∧ s'.os = st.os ∧ AllBare s'.gens) st := by
    intro H hO hS hok hA hKa
    have free : ∀ {b : Addr} {o : Obj} {es : Array DictEntry} {ep : Nat}, st.heap.get? b = some o → o.data = .dict es ep → H b = none := by
      intro b o es ep e d
      cases q : H b with
      | none => rfl
      | some u =>
        obtain rfl : b = a := hA b (by rw [q]; exact Option.some_ne_none u)
        rw [hob] at e
        cases e
        cases d
    have nsH : ∀ {b : Addr} {m : Str → Option Value}, st.heap.Ns b m → (hidT st.heap H).Ns b m := by
      rintro b m ⟨o, es, ep, e, d, rr⟩
      exact ⟨o, es, ep, hidT_get e (free e d), d, rr⟩
    have KH : K.In (hidT st.heap H) := by
      intro b o e
      refine hidT_get (KI b o e) ?_
      cases q : H b with
      | none => rfl
      | some u =>
        obtain rfl : b = a := hA b (by rw [q]; exact Option.some_ne_none u)
        rw [hKa (by rw [q]; exact Option.some_ne_none u)] at e
        cases e
    have hM : Mod K mg (hidT st.heap H) := by
      obtain ⟨mc, h1, h2⟩ := hNl
      exact ⟨KH, nsH hG, ⟨mb, nsH hB, hBb⟩, ⟨mc, nsH h1, h2⟩⟩
    have e0 : Env0 P w K mg (hidT st.heap H) callerA [] st H :=
      { frames := rfl, mod := hM, bs := fun b o e => of_hidT e, bsz := Nat.le_of_eq (hidT_size _ _), funs := trivial, frf := (by intro b hb; exact absurd hb (by simp [frs])), hok := hok, bare := .of_eq hgs }
    obtain ⟨fd, hF, hbd⟩ := F _ KH (nsH hG)
    refine codeAny_mono (hF.run callerA [] st H ⟨[.ref a], []⟩ [.ref a] [.ref a] _ _ rfl hr e0 (hbd st [.ref a] KI rfl) (.cons rfl .nil) (hsp H hO hS)) fun r s' h => ?_
    cases r with
    | error e => exact (hno H e s' h).elim
    | ok fl =>
      cases fl with
      | ret u =>
        obtain ⟨v, H', eos, br, un, hok', r', q⟩ := h
        obtain rfl : v = .bl true := q
        obtain rfl : u = Value.bool true := r'
        refine ⟨rfl, OldK.of_keep fun b o e => ?_, eos, br⟩
        cases q : H b with
        | none => exact un.keep b o e q (by simp [frs]) (by simp)
        | some u =>
          rcases hO b with z | ⟨ob, xs, z⟩
          · rw [q] at z
            cases z
          · have y2 := (hok' b _ (un.frzs b ob _ z)).1
            have y1 := (hok b _ z).1
            rw [e] at y1
            cases y1
            exact y2
      | _ => exact False.elim h
  cases hk : K.lookup a with
  | some o =>
    have e := KI a o hk
    rw [hob] at e
    cases e
    refine main (fun _ => none) (fun _ => .inl rfl) (.inr ⟨_, vs.toArray, _, hk, rfl, rfl, rfl, ?_, by simpa using rv⟩) ?_ (fun b z => absurd rfl z) fun z => absurd rfl z
    · rw [List.size_toArray, hin.length]
      exact hsz
    · intro b u z
      exact nomatch (show (none : Option HO) = some u from z)
  | none =>
    let o1 : Obj := { cls := .type "list", data := .seq vs.toArray }
    refine main (fun b => if b = a then some (.frz o1 (.lst (ns.map V.int))) else none) (fun b => ?_) (.inl (.inr ⟨o1, if_pos rfl⟩)) (fun b u z => ?_) (fun b z => ?_) fun _ => hk
    · by_cases hb : b = a
      · exact .inr ⟨_, _, if_pos hb⟩
      · exact .inl (if_neg hb)
    · by_cases hb : b = a
      · have y := (if_pos hb).symm.trans z
        cases y
        subst hb
        exact ⟨hob, by rw [List.length_map]; exact hsz, vs, _, rv, hob⟩
      · have y := (if_neg hb).symm.trans z
        cases y
    · by_cases hb : b = a
      · exact hb
      · exact absurd (if_neg hb) z
theorem walkO {l : PySem.W.OpenLaw} {n k : Nat} {q : Program} {loose : List Str} {XP : (Str → Option Value) → Heap → Prop} {YP : World → Heap → Prop} {d : DefRec} {CX : World → CXT} {x : Str}
    (hn : l.most = some n) (hn2 : n ≤ sizeLine) (hdf : d.params.defaults = []) (hr : Room k callerA)
    (F : ∀ (w : World) (mg : Str → Option Value) (fa : Addr) (h : Heap), YP w h → h.Ns mainGlobals mg → mg d.name = some (.ref fa) →
      ∃ (K : PySem.W.Frag) (sp : Sp), K.In h ∧
        (∀ (H : Hp) (a : Addr) (ns : List Int), ns.length ≤ n → Only H → SqL K H a (ns.map V.int) → sp [.ref a] H (fun v _ => v = .bl true) fun _ _ _ => False) ∧
        ∀ base : Heap, K.In base → base.Ns mainGlobals mg → ∃ fd, FnG l.prog w K mg base (CX w) k fa fd [x] sp ∧ Binds K fd [x] [])
    (hno : ∀ (w : World) (H : Hp) (s : Shared) (e : Value) (s' : Shared), CX w [] H s (fun _ _ _ => False) e s' → False) :
    PySem.W.WalkO q loose XP YP l.row.toRowW d [] (fun f vs => PySem.call f vs) := by
  refine Att.attach_call hn hdf fun w _ st mg mb fa o pm cd doc a vs ns G Y _ _ _ hmg hob hin hlen hgs => ?_
  obtain ⟨K, sp, KI, hsp, hF⟩ := F w mg fa _ Y G.T.g hmg
  exact lawO KI G.T.g G.T.b G.T.builtins G.T.nolimit hgs hob hin (Nat.le_trans hlen hn2) hr hF (fun H hO hS => hsp H a ns hlen hO hS) fun H e s' => hno w H st e s'
end AT

set_option maxHeartbeats 4000000
namespace K03
open PySem PySem.Spec PyProof.Rows L2 AT
/-! the text by places -/
def top (i : Nat) : Stmt := PySem.Challenge.pw_anytempo_k03_amounts_as_strings.main.body.getD i (.Pass ⟨0, 0, 0, 0⟩)
abbrev s__wall : Stmt := top 0
abbrev s_InvalidInteger_init_ : Stmt := inClass (top 3) 0
def d_InvalidInteger_init_ : FD := fdOf (fun K => He.ma K (He.ga K "InvalidInteger") "__init__") "__init__" "InvalidInteger.__init__" s_InvalidInteger_init_
abbrev s_InvalidAmount_init_ : Stmt := inClass (top 4) 0
def d_InvalidAmount_init_ : FD := fdOf (fun K => He.ma K (He.ga K "InvalidAmount") "__init__") "__init__" "InvalidAmount.__init__" s_InvalidAmount_init_
abbrev s_InvalidUnit_init_ : Stmt := inClass (top 5) 0
def d_InvalidUnit_init_ : FD := fdOf (fun K => He.ma K (He.ga K "InvalidUnit") "__init__") "__init__" "InvalidUnit.__init__" s_InvalidUnit_init_
abbrev s_InvalidWord_init_ : Stmt := inClass (top 6) 0
def d_InvalidWord_init_ : FD := fdOf (fun K => He.ma K (He.ga K "InvalidWord") "__init__") "__init__" "InvalidWord.__init__" s_InvalidWord_init_
abbrev s_is_whole : Stmt := top 18
def d_is_whole : FD := fdOf (fun K => He.ga K "is_whole") "is_whole" "is_whole" s_is_whole
abbrev s_is_integer : Stmt := top 19
def d_is_integer : FD := fdOf (fun K => He.ga K "is_integer") "is_integer" "is_integer" s_is_integer
abbrev s_is_name : Stmt := top 20
def d_is_name : FD := fdOf (fun K => He.ga K "is_name") "is_name" "is_name" s_is_name
abbrev s_is_unit : Stmt := top 21
def d_is_unit : FD := fdOf (fun K => He.ga K "is_unit") "is_unit" "is_unit" s_is_unit
abbrev s_is_word : Stmt := top 22
def d_is_word : FD := fdOf (fun K => He.ga K "is_word") "is_word" "is_word" s_is_word
abbrev s_need_unit : Stmt := top 23
def d_need_unit : FD := fdOf (fun K => He.ga K "need_unit") "need_unit" "need_unit" s_need_unit
abbrev s_need_word : Stmt := top 24
def d_need_word : FD := fdOf (fun K => He.ga K "need_word") "need_word" "need_word" s_need_word
abbrev s_other_unit : Stmt := top 25
def d_other_unit : FD := fdOf (fun K => He.ga K "other_unit") "other_unit" "other_unit" s_other_unit
abbrev s_turned : Stmt := top 26
def d_turned : FD := fdOf (fun K => He.ga K "turned") "turned" "turned" s_turned
abbrev s_common_factor : Stmt := top 31
def d_common_factor : FD := fdOf (fun K => He.ga K "common_factor") "common_factor" "common_factor" s_common_factor
abbrev s_Amount_init_ : Stmt := inClass (top 32) 0
def d_Amount_init_ : FD := fdOf (fun K => He.ma K (He.ga K "Amount") "__init__") "__init__" "Amount.__init__" s_Amount_init_ [.int 1]
abbrev s_Amount_top : Stmt := inClass (top 32) 1
def d_Amount_top : FD := fdOf (propAt "Amount" "top") "top" "Amount.top" s_Amount_top
abbrev s_Amount_bottom : Stmt := inClass (top 32) 2
def d_Amount_bottom : FD := fdOf (propAt "Amount" "bottom") "bottom" "Amount.bottom" s_Amount_bottom
abbrev s_Amount_eq_ : Stmt := inClass (top 32) 3
def d_Amount_eq_ : FD := fdOf (fun K => He.ma K (He.ga K "Amount") "__eq__") "__eq__" "Amount.__eq__" s_Amount_eq_
abbrev s_Amount_add_ : Stmt := inClass (top 32) 4
def d_Amount_add_ : FD := fdOf (fun K => He.ma K (He.ga K "Amount") "__add__") "__add__" "Amount.__add__" s_Amount_add_
abbrev s_Amount_sub_ : Stmt := inClass (top 32) 5
def d_Amount_sub_ : FD := fdOf (fun K => He.ma K (He.ga K "Amount") "__sub__") "__sub__" "Amount.__sub__" s_Amount_sub_
abbrev s_Amount_mul_ : Stmt := inClass (top 32) 6
def d_Amount_mul_ : FD := fdOf (fun K => He.ma K (He.ga K "Amount") "__mul__") "__mul__" "Amount.__mul__" s_Amount_mul_
abbrev s_Amount_divided : Stmt := inClass (top 32) 7
def d_Amount_divided : FD := fdOf (fun K => He.ma K (He.ga K "Amount") "divided") "divided" "Amount.divided" s_Amount_divided
abbrev s_Amount_neg_ : Stmt := inClass (top 32) 8
def d_Amount_neg_ : FD := fdOf (fun K => He.ma K (He.ga K "Amount") "__neg__") "__neg__" "Amount.__neg__" s_Amount_neg_
abbrev s_Amount_abs_ : Stmt := inClass (top 32) 9
def d_Amount_abs_ : FD := fdOf (fun K => He.ma K (He.ga K "Amount") "__abs__") "__abs__" "Amount.__abs__" s_Amount_abs_
abbrev s_Amount_compare : Stmt := inClass (top 32) 10
def d_Amount_compare : FD := fdOf (fun K => He.ma K (He.ga K "Amount") "compare") "compare" "Amount.compare" s_Amount_compare
abbrev s_amount_from : Stmt := top 33
def d_amount_from : FD := fdOf (fun K => He.ga K "amount_from") "amount_from" "amount_from" s_amount_from
abbrev s_amount_text : Stmt := top 34
def d_amount_text : FD := fdOf (fun K => He.ga K "amount_text") "amount_text" "amount_text" s_amount_text
abbrev s_number_of : Stmt := top 35
def d_number_of : FD := fdOf (fun K => He.ga K "number_of") "number_of" "number_of" s_number_of
abbrev s_amount_of : Stmt := top 36
def d_amount_of : FD := fdOf (fun K => He.ga K "amount_of") "amount_of" "amount_of" s_amount_of
abbrev s_w_cell : Stmt := top 38
def d_w_cell : FD := fdOf (fun K => He.ga K "_law_cell") "_law_cell" "_law_cell" s_w_cell
abbrev s_w_box : Stmt := top 39
def d_w_box : FD := fdOf (fun K => He.ga K "_law_box") "_law_box" "_law_box" s_w_box
abbrev s_w_take : Stmt := top 40
def d_w_take : FD := fdOf (fun K => He.ga K "_law_take") "_law_take" "_law_take" s_w_take
abbrev s_w_lowest : Stmt := top 41
def d_w_lowest : FD := fdOf (fun K => He.ga K "_law_lowest") "_law_lowest" "_law_lowest" s_w_lowest
abbrev s_w_line : Stmt := top 42
def d_w_line : FD := fdOf (fun K => He.ga K "_law_line") "_law_line" "_law_line" s_w_line
abbrev s_w_number : Stmt := top 43
def d_w_number : FD := fdOf (fun K => He.ga K "_law_number") "_law_number" "_law_number" s_w_number
abbrev s_w_read : Stmt := top 44
def d_w_read : FD := fdOf (fun K => He.ga K "_law_read") "_law_read" "_law_read" s_w_read
abbrev s_w_lines_right : Stmt := top 45
def d_w_lines_right : FD := fdOf (fun K => He.ga K "_law_lines_right") "_law_lines_right" "_law_lines_right" s_w_lines_right
abbrev s_w_is_named : Stmt := top 46
def d_w_is_named : FD := fdOf (fun K => He.ga K "_law_is_named") "_law_is_named" "_law_is_named" s_w_is_named
abbrev s_w_words_right : Stmt := top 47
def d_w_words_right : FD := fdOf (fun K => He.ga K "_law_words_right") "_law_words_right" "_law_words_right" s_w_words_right
abbrev s_w_told : Stmt := top 48
def d_w_told : FD := fdOf (fun K => He.ga K "_law_told") "_law_told" "_law_told" s_w_told
abbrev s_w_things_right : Stmt := top 49
def d_w_things_right : FD := fdOf (fun K => He.ga K "_law_things_right") "_law_things_right" "_law_things_right" s_w_things_right
abbrev s_law : Stmt := top 50
def d_law : FD := fdOf (fun K => He.ga K "law") "law" "law" s_law
def fn : List FD := [d_InvalidInteger_init_, d_InvalidAmount_init_, d_InvalidUnit_init_, d_InvalidWord_init_, d_is_whole, d_is_integer, d_is_name, d_is_unit, d_is_word, d_need_unit, d_need_word, d_other_unit, d_turned, d_common_factor, d_Amount_init_, d_Amount_top, d_Amount_bottom, d_Amount_eq_, d_Amount_add_, d_Amount_sub_, d_Amount_mul_, d_Amount_divided, d_Amount_neg_, d_Amount_abs_, d_Amount_compare, d_amount_from, d_amount_text, d_number_of, d_amount_of, d_w_cell, d_w_box, d_w_take, d_w_lowest, d_w_line, d_w_number, d_w_read, d_w_lines_right, d_w_is_named, d_w_words_right, d_w_told, d_w_things_right, d_law]
def ex : Ex := [
  gloB "is_whole",
  gloB "is_integer",
  gloB "is_name",
  gloB "is_unit",
  gloB "is_word",
  gloB "need_unit",
  gloB "need_word",
  gloB "other_unit",
  gloB "turned",
  gloB "common_factor",
  gloB "amount_from",
  gloB "amount_text",
  gloB "number_of",
  gloB "amount_of",
  gloB "_law_cell",
  gloB "_law_box",
  gloB "_law_take",
  gloB "_law_lowest",
  gloB "_law_line",
  gloB "_law_number",
  gloB "_law_read",
  gloB "_law_lines_right",
  gloB "_law_is_named",
  gloB "_law_words_right",
  gloB "_law_told",
  gloB "_law_things_right",
  gloB "law",
  gloB "CueError",
  gloB "InvalidInteger",
  gloB "InvalidAmount",
  gloB "InvalidUnit",
  gloB "InvalidWord",
  gloB "Amount",
  freeB "NotImplemented",
  freeB "ValueError",
  freeB "abs",
  freeB "all",
  freeB "bool",
  freeB "int",
  freeB "isinstance",
  freeB "len",
  freeB "max",
  freeB "min",
  freeB "property",
  freeB "range",
  freeB "repr",
  freeB "str",
  conB "BEATS" (.str "beats"),
  conB "SECONDS" (.str "seconds"),
  lstB "UNITS" [.str "beats", .str "seconds"],
  gloB "UNITS",
  conB "BEFORE" (.str "before"),
  conB "SAME" (.str "same"),
  conB "AFTER" (.str "after"),
  lstB "WORDS" [.str "before", .str "same", .str "after"],
  gloB "WORDS",
  conB "LETTERS" (.str "abcdefghijklmnopqrstuvwxyz"),
  conB "DIGITS" (.str "0123456789"),
  conB "LONGEST_NAME" (.int 8),
  conB "LONGEST_TOP" (.int 6),
  conB "LONGEST_BOTTOM" (.int 4),
  conB "MOST_BOTTOM" (.int 1000),
  clsB "Amount",
  mkrB "Amount",
  insB "Amount",
  methB "Amount" "__init__",
  methB "Amount" "__eq__",
  methB "Amount" "__add__",
  methB "Amount" "__sub__",
  methB "Amount" "__mul__",
  methB "Amount" "divided",
  methB "Amount" "__neg__",
  methB "Amount" "__abs__",
  methB "Amount" "compare",
  noatB "Amount" "own_top",
  noatB "Amount" "own_bottom",
  propB "Amount" "top",
  propB "Amount" "bottom",
  kitB (fun _ => .type "NoneType") (fun K => .ref (He.ga K "Amount")) false,
  kitB (fun _ => .type "bool") (fun K => .ref (He.ga K "Amount")) false,
  kitB (fun _ => .type "int") (fun K => .ref (He.ga K "Amount")) false,
  kitB (fun _ => .type "str") (fun K => .ref (He.ga K "Amount")) false,
  kitB (fun _ => .type "list") (fun K => .ref (He.ga K "Amount")) false,
  kitB (fun _ => .type "tuple") (fun K => .ref (He.ga K "Amount")) false,
  kitB (fun _ => .type "dict") (fun K => .ref (He.ga K "Amount")) false,
  kitB (fun K => .ref (He.ga K "Amount")) (fun K => .ref (He.ga K "Amount")) true,
  kitB (fun K => .ref (He.ga K "Amount")) (fun _ => .type "bool") false,
  kitB (fun K => .ref (He.ga K "Amount")) (fun _ => .type "int") false,
  kitB (fun K => .ref (He.ga K "Amount")) (fun _ => .type "str") false,
  kitB (fun K => .ref (He.ga K "Amount")) (fun _ => .type "list") false,
  kitB (fun K => .ref (He.ga K "Amount")) (fun _ => .type "tuple") false,
  kitB (fun K => .ref (He.ga K "Amount")) (fun _ => .type "dict") false,
  fun K => baB K "CueError",
  fun K => xcB K "InvalidInteger" "value",
  fun K => xcB K "InvalidAmount" "value",
  fun K => xcB K "InvalidUnit" "value",
  fun K => xcB K "InvalidWord" "value",
  exmB "InvalidInteger" "InvalidInteger" true,
  exmB "InvalidInteger" "InvalidAmount" false,
  exmB "InvalidInteger" "InvalidUnit" false,
  exmB "InvalidInteger" "InvalidWord" false,
  exmB "InvalidAmount" "InvalidInteger" false,
  exmB "InvalidAmount" "InvalidAmount" true,
  exmB "InvalidAmount" "InvalidUnit" false,
  exmB "InvalidAmount" "InvalidWord" false,
  exmB "InvalidUnit" "InvalidInteger" false,
  exmB "InvalidUnit" "InvalidAmount" false,
  exmB "InvalidUnit" "InvalidUnit" true,
  exmB "InvalidUnit" "InvalidWord" false,
  exmB "InvalidWord" "InvalidInteger" false,
  exmB "InvalidWord" "InvalidAmount" false,
  exmB "InvalidWord" "InvalidUnit" false,
  exmB "InvalidWord" "InvalidWord" true,
  sysB]
structure Tx (K : PySem.W.Frag) (mg : Str → Option Value) (base : Heap) : Prop where
  says : SaysA fn ex K
  kin : K.In base
  ns : base.Ns mainGlobals mg
section
variable {K : PySem.W.Frag} {mg : Str → Option Value} {base : Heap}
theorem Tx.g_is_whole (T : Tx K mg base) : mg "is_whole" = some (.ref (He.ga K "is_whole")) := PySem.W.mg_of T.kin T.ns (He.eqO_ok (T.says.more 0 (e := gloB "is_whole") rfl))
theorem Tx.g_is_integer (T : Tx K mg base) : mg "is_integer" = some (.ref (He.ga K "is_integer")) := PySem.W.mg_of T.kin T.ns (He.eqO_ok (T.says.more 1 (e := gloB "is_integer") rfl))
theorem Tx.g_is_name (T : Tx K mg base) : mg "is_name" = some (.ref (He.ga K "is_name")) := PySem.W.mg_of T.kin T.ns (He.eqO_ok (T.says.more 2 (e := gloB "is_name") rfl))
theorem Tx.g_is_unit (T : Tx K mg base) : mg "is_unit" = some (.ref (He.ga K "is_unit")) := PySem.W.mg_of T.kin T.ns (He.eqO_ok (T.says.more 3 (e := gloB "is_unit") rfl))
theorem Tx.g_is_word (T : Tx K mg base) : mg "is_word" = some (.ref (He.ga K "is_word")) := PySem.W.mg_of T.kin T.ns (He.eqO_ok (T.says.more 4 (e := gloB "is_word") rfl))
theorem Tx.g_need_unit (T : Tx K mg base) : mg "need_unit" = some (.ref (He.ga K "need_unit")) := PySem.W.mg_of T.kin T.ns (He.eqO_ok (T.says.more 5 (e := gloB "need_unit") rfl))
theorem Tx.g_need_word (T : Tx K mg base) : mg "need_word" = some (.ref (He.ga K "need_word")) := PySem.W.mg_of T.kin T.ns (He.eqO_ok (T.says.more 6 (e := gloB "need_word") rfl))
theorem Tx.g_other_unit (T : Tx K mg base) : mg "other_unit" = some (.ref (He.ga K "other_unit")) := PySem.W.mg_of T.kin T.ns (He.eqO_ok (T.says.more 7 (e := gloB "other_unit") rfl))
theorem Tx.g_turned (T : Tx K mg base) : mg "turned" = some (.ref (He.ga K "turned")) := PySem.W.mg_of T.kin T.ns (He.eqO_ok (T.says.more 8 (e := gloB "turned") rfl))
theorem Tx.g_common_factor (T : Tx K mg base) : mg "common_factor" = some (.ref (He.ga K "common_factor")) := PySem.W.mg_of T.kin T.ns (He.eqO_ok (T.says.more 9 (e := gloB "common_factor") rfl))
theorem Tx.g_amount_from (T : Tx K mg base) : mg "amount_from" = some (.ref (He.ga K "amount_from")) := PySem.W.mg_of T.kin T.ns (He.eqO_ok (T.says.more 10 (e := gloB "amount_from") rfl))
theorem Tx.g_amount_text (T : Tx K mg base) : mg "amount_text" = some (.ref (He.ga K "amount_text")) := PySem.W.mg_of T.kin T.ns (He.eqO_ok (T.says.more 11 (e := gloB "amount_text") rfl))
theorem Tx.g_number_of (T : Tx K mg base) : mg "number_of" = some (.ref (He.ga K "number_of")) := PySem.W.mg_of T.kin T.ns (He.eqO_ok (T.says.more 12 (e := gloB "number_of") rfl))
theorem Tx.g_amount_of (T : Tx K mg base) : mg "amount_of" = some (.ref (He.ga K "amount_of")) := PySem.W.mg_of T.kin T.ns (He.eqO_ok (T.says.more 13 (e := gloB "amount_of") rfl))
theorem Tx.g_w_cell (T : Tx K mg base) : mg "_law_cell" = some (.ref (He.ga K "_law_cell")) := PySem.W.mg_of T.kin T.ns (He.eqO_ok (T.says.more 14 (e := gloB "_law_cell") rfl))
theorem Tx.g_w_box (T : Tx K mg base) : mg "_law_box" = some (.ref (He.ga K "_law_box")) := PySem.W.mg_of T.kin T.ns (He.eqO_ok (T.says.more 15 (e := gloB "_law_box") rfl))
theorem Tx.g_w_take (T : Tx K mg base) : mg "_law_take" = some (.ref (He.ga K "_law_take")) := PySem.W.mg_of T.kin T.ns (He.eqO_ok (T.says.more 16 (e := gloB "_law_take") rfl))
theorem Tx.g_w_lowest (T : Tx K mg base) : mg "_law_lowest" = some (.ref (He.ga K "_law_lowest")) := PySem.W.mg_of T.kin T.ns (He.eqO_ok (T.says.more 17 (e := gloB "_law_lowest") rfl))
theorem Tx.g_w_line (T : Tx K mg base) : mg "_law_line" = some (.ref (He.ga K "_law_line")) := PySem.W.mg_of T.kin T.ns (He.eqO_ok (T.says.more 18 (e := gloB "_law_line") rfl))
theorem Tx.g_w_number (T : Tx K mg base) : mg "_law_number" = some (.ref (He.ga K "_law_number")) := PySem.W.mg_of T.kin T.ns (He.eqO_ok (T.says.more 19 (e := gloB "_law_number") rfl))
theorem Tx.g_w_read (T : Tx K mg base) : mg "_law_read" = some (.ref (He.ga K "_law_read")) := PySem.W.mg_of T.kin T.ns (He.eqO_ok (T.says.more 20 (e := gloB "_law_read") rfl))
theorem Tx.g_w_lines_right (T : Tx K mg base) : mg "_law_lines_right" = some (.ref (He.ga K "_law_lines_right")) := PySem.W.mg_of T.kin T.ns (He.eqO_ok (T.says.more 21 (e := gloB "_law_lines_right") rfl))
theorem Tx.g_w_is_named (T : Tx K mg base) : mg "_law_is_named" = some (.ref (He.ga K "_law_is_named")) := PySem.W.mg_of T.kin T.ns (He.eqO_ok (T.says.more 22 (e := gloB "_law_is_named") rfl))
theorem Tx.g_w_words_right (T : Tx K mg base) : mg "_law_words_right" = some (.ref (He.ga K "_law_words_right")) := PySem.W.mg_of T.kin T.ns (He.eqO_ok (T.says.more 23 (e := gloB "_law_words_right") rfl))
theorem Tx.g_w_told (T : Tx K mg base) : mg "_law_told" = some (.ref (He.ga K "_law_told")) := PySem.W.mg_of T.kin T.ns (He.eqO_ok (T.says.more 24 (e := gloB "_law_told") rfl))
theorem Tx.g_w_things_right (T : Tx K mg base) : mg "_law_things_right" = some (.ref (He.ga K "_law_things_right")) := PySem.W.mg_of T.kin T.ns (He.eqO_ok (T.says.more 25 (e := gloB "_law_things_right") rfl))
theorem Tx.g_law (T : Tx K mg base) : mg "law" = some (.ref (He.ga K "law")) := PySem.W.mg_of T.kin T.ns (He.eqO_ok (T.says.more 26 (e := gloB "law") rfl))
theorem Tx.g_CueError (T : Tx K mg base) : mg "CueError" = some (.ref (He.ga K "CueError")) := PySem.W.mg_of T.kin T.ns (He.eqO_ok (T.says.more 27 (e := gloB "CueError") rfl))
theorem Tx.g_InvalidInteger (T : Tx K mg base) : mg "InvalidInteger" = some (.ref (He.ga K "InvalidInteger")) := PySem.W.mg_of T.kin T.ns (He.eqO_ok (T.says.more 28 (e := gloB "InvalidInteger") rfl))
theorem Tx.g_InvalidAmount (T : Tx K mg base) : mg "InvalidAmount" = some (.ref (He.ga K "InvalidAmount")) := PySem.W.mg_of T.kin T.ns (He.eqO_ok (T.says.more 29 (e := gloB "InvalidAmount") rfl))
theorem Tx.g_InvalidUnit (T : Tx K mg base) : mg "InvalidUnit" = some (.ref (He.ga K "InvalidUnit")) := PySem.W.mg_of T.kin T.ns (He.eqO_ok (T.says.more 30 (e := gloB "InvalidUnit") rfl))
theorem Tx.g_InvalidWord (T : Tx K mg base) : mg "InvalidWord" = some (.ref (He.ga K "InvalidWord")) := PySem.W.mg_of T.kin T.ns (He.eqO_ok (T.says.more 31 (e := gloB "InvalidWord") rfl))
theorem Tx.g_Amount (T : Tx K mg base) : mg "Amount" = some (.ref (He.ga K "Amount")) := PySem.W.mg_of T.kin T.ns (He.eqO_ok (T.says.more 32 (e := gloB "Amount") rfl))
theorem Tx.b_NotImplemented (T : Tx K mg base) : mg "NotImplemented" = none := PySem.W.mg_none_of T.kin T.ns (He.eqO_ok (T.says.more 33 (e := freeB "NotImplemented") rfl))
theorem Tx.b_ValueError (T : Tx K mg base) : mg "ValueError" = none := PySem.W.mg_none_of T.kin T.ns (He.eqO_ok (T.says.more 34 (e := freeB "ValueError") rfl))
theorem Tx.b_abs (T : Tx K mg base) : mg "abs" = none := PySem.W.mg_none_of T.kin T.ns (He.eqO_ok (T.says.more 35 (e := freeB "abs") rfl))
theorem Tx.b_all (T : Tx K mg base) : mg "all" = none := PySem.W.mg_none_of T.kin T.ns (He.eqO_ok (T.says.more 36 (e := freeB "all") rfl))
theorem Tx.b_bool (T : Tx K mg base) : mg "bool" = none := PySem.W.mg_none_of T.kin T.ns (He.eqO_ok (T.says.more 37 (e := freeB "bool") rfl))
theorem Tx.b_int (T : Tx K mg base) : mg "int" = none := PySem.W.mg_none_of T.kin T.ns (He.eqO_ok (T.says.more 38 (e := freeB "int") rfl))
theorem Tx.b_isinstance (T : Tx K mg base) : mg "isinstance" = none := PySem.W.mg_none_of T.kin T.ns (He.eqO_ok (T.says.more 39 (e := freeB "isinstance") rfl))
theorem Tx.b_len (T : Tx K mg base) : mg "len" = none := PySem.W.mg_none_of T.kin T.ns (He.eqO_ok (T.says.more 40 (e := freeB "len") rfl))
theorem Tx.b_max (T : Tx K mg base) : mg "max" = none := PySem.W.mg_none_of T.kin T.ns (He.eqO_ok (T.says.more 41 (e := freeB "max") rfl))
theorem Tx.b_min (T : Tx K mg base) : mg "min" = none := PySem.W.mg_none_of T.kin T.ns (He.eqO_ok (T.says.more 42 (e := freeB "min") rfl))
theorem Tx.b_property (T : Tx K mg base) : mg "property" = none := PySem.W.mg_none_of T.kin T.ns (He.eqO_ok (T.says.more 43 (e := freeB "property") rfl))
theorem Tx.b_range (T : Tx K mg base) : mg "range" = none := PySem.W.mg_none_of T.kin T.ns (He.eqO_ok (T.says.more 44 (e := freeB "range") rfl))
theorem Tx.b_repr (T : Tx K mg base) : mg "repr" = none := PySem.W.mg_none_of T.kin T.ns (He.eqO_ok (T.says.more 45 (e := freeB "repr") rfl))
theorem Tx.b_str (T : Tx K mg base) : mg "str" = none := PySem.W.mg_none_of T.kin T.ns (He.eqO_ok (T.says.more 46 (e := freeB "str") rfl))
theorem Tx.c_BEATS (T : Tx K mg base) : ∃ u, mg "BEATS" = some u ∧ RelV (.str "beats") u := conB_ok T.kin T.ns (T.says.more 47 (e := conB "BEATS" (.str "beats")) rfl)
theorem Tx.c_SECONDS (T : Tx K mg base) : ∃ u, mg "SECONDS" = some u ∧ RelV (.str "seconds") u := conB_ok T.kin T.ns (T.says.more 48 (e := conB "SECONDS" (.str "seconds")) rfl)
theorem Tx.l_UNITS (T : Tx K mg base) (H : Hp) : SqL K H (He.ga K "UNITS") [.str "beats", .str "seconds"] := He.lstB_ok (T.says.more 49 (e := lstB "UNITS" [.str "beats", .str "seconds"]) rfl) H
theorem Tx.g_UNITS (T : Tx K mg base) : mg "UNITS" = some (.ref (He.ga K "UNITS")) := PySem.W.mg_of T.kin T.ns (He.eqO_ok (T.says.more 50 (e := gloB "UNITS") rfl))
theorem Tx.c_BEFORE (T : Tx K mg base) : ∃ u, mg "BEFORE" = some u ∧ RelV (.str "before") u := conB_ok T.kin T.ns (T.says.more 51 (e := conB "BEFORE" (.str "before")) rfl)
theorem Tx.c_SAME (T : Tx K mg base) : ∃ u, mg "SAME" = some u ∧ RelV (.str "same") u := conB_ok T.kin T.ns (T.says.more 52 (e := conB "SAME" (.str "same")) rfl)
theorem Tx.c_AFTER (T : Tx K mg base) : ∃ u, mg "AFTER" = some u ∧ RelV (.str "after") u := conB_ok T.kin T.ns (T.says.more 53 (e := conB "AFTER" (.str "after")) rfl)
theorem Tx.l_WORDS (T : Tx K mg base) (H : Hp) : SqL K H (He.ga K "WORDS") [.str "before", .str "same", .str "after"] := He.lstB_ok (T.says.more 54 (e := lstB "WORDS" [.str "before", .str "same", .str "after"]) rfl) H
theorem Tx.g_WORDS (T : Tx K mg base) : mg "WORDS" = some (.ref (He.ga K "WORDS")) := PySem.W.mg_of T.kin T.ns (He.eqO_ok (T.says.more 55 (e := gloB "WORDS") rfl))
theorem Tx.c_LETTERS (T : Tx K mg base) : ∃ u, mg "LETTERS" = some u ∧ RelV (.str "abcdefghijklmnopqrstuvwxyz") u := conB_ok T.kin T.ns (T.says.more 56 (e := conB "LETTERS" (.str "abcdefghijklmnopqrstuvwxyz")) rfl)
theorem Tx.c_DIGITS (T : Tx K mg base) : ∃ u, mg "DIGITS" = some u ∧ RelV (.str "0123456789") u := conB_ok T.kin T.ns (T.says.more 57 (e := conB "DIGITS" (.str "0123456789")) rfl)
theorem Tx.c_LONGEST_NAME (T : Tx K mg base) : ∃ u, mg "LONGEST_NAME" = some u ∧ RelV (.int 8) u := conB_ok T.kin T.ns (T.says.more 58 (e := conB "LONGEST_NAME" (.int 8)) rfl)
theorem Tx.c_LONGEST_TOP (T : Tx K mg base) : ∃ u, mg "LONGEST_TOP" = some u ∧ RelV (.int 6) u := conB_ok T.kin T.ns (T.says.more 59 (e := conB "LONGEST_TOP" (.int 6)) rfl)
theorem Tx.c_LONGEST_BOTTOM (T : Tx K mg base) : ∃ u, mg "LONGEST_BOTTOM" = some u ∧ RelV (.int 4) u := conB_ok T.kin T.ns (T.says.more 60 (e := conB "LONGEST_BOTTOM" (.int 4)) rfl)
theorem Tx.c_MOST_BOTTOM (T : Tx K mg base) : ∃ u, mg "MOST_BOTTOM" = some u ∧ RelV (.int 1000) u := conB_ok T.kin T.ns (T.says.more 61 (e := conB "MOST_BOTTOM" (.int 1000)) rfl)
theorem Tx.cls_Amount (T : Tx K mg base) : Cls K (He.ga K "Amount") := He.cls_ok (T.says.more 62 (e := clsB "Amount") rfl)
theorem Tx.mkr_Amount (T : Tx K mg base) : Mk K (He.ga K "Amount") (He.ma K (He.ga K "Amount") "__init__") := He.mkr_ok (T.says.more 63 (e := mkrB "Amount") rfl)
theorem Tx.ins_Amount (T : Tx K mg base) {H : Hp} {a dx : Addr} {fs : List (Str × V)} (e : H a = some (.ins (He.ga K "Amount") dx fs)) : TyX K H (.ref a) (.ref (He.ga K "Amount")) := insB_ok (T.says.more 64 (e := insB "Amount") rfl) T.cls_Amount e
theorem Tx.m_Amount_init_ (T : Tx K mg base) : Meth K (He.ga K "Amount") "__init__" (He.ma K (He.ga K "Amount") "__init__") := He.meth_ok (T.says.more 65 (e := methB "Amount" "__init__") rfl)
theorem Tx.m_Amount_eq_ (T : Tx K mg base) : Meth K (He.ga K "Amount") "__eq__" (He.ma K (He.ga K "Amount") "__eq__") := He.meth_ok (T.says.more 66 (e := methB "Amount" "__eq__") rfl)
theorem Tx.m_Amount_add_ (T : Tx K mg base) : Meth K (He.ga K "Amount") "__add__" (He.ma K (He.ga K "Amount") "__add__") := He.meth_ok (T.says.more 67 (e := methB "Amount" "__add__") rfl)
theorem Tx.m_Amount_sub_ (T : Tx K mg base) : Meth K (He.ga K "Amount") "__sub__" (He.ma K (He.ga K "Amount") "__sub__") := He.meth_ok (T.says.more 68 (e := methB "Amount" "__sub__") rfl)
theorem Tx.m_Amount_mul_ (T : Tx K mg base) : Meth K (He.ga K "Amount") "__mul__" (He.ma K (He.ga K "Amount") "__mul__") := He.meth_ok (T.says.more 69 (e := methB "Amount" "__mul__") rfl)
theorem Tx.m_Amount_divided (T : Tx K mg base) : Meth K (He.ga K "Amount") "divided" (He.ma K (He.ga K "Amount") "divided") := He.meth_ok (T.says.more 70 (e := methB "Amount" "divided") rfl)
theorem Tx.m_Amount_neg_ (T : Tx K mg base) : Meth K (He.ga K "Amount") "__neg__" (He.ma K (He.ga K "Amount") "__neg__") := He.meth_ok (T.says.more 71 (e := methB "Amount" "__neg__") rfl)
theorem Tx.m_Amount_abs_ (T : Tx K mg base) : Meth K (He.ga K "Amount") "__abs__" (He.ma K (He.ga K "Amount") "__abs__") := He.meth_ok (T.says.more 72 (e := methB "Amount" "__abs__") rfl)
theorem Tx.m_Amount_compare (T : Tx K mg base) : Meth K (He.ga K "Amount") "compare" (He.ma K (He.ga K "Amount") "compare") := He.meth_ok (T.says.more 73 (e := methB "Amount" "compare") rfl)
theorem Tx.no_Amount_own_top (T : Tx K mg base) : NoAttr K (He.ga K "Amount") "own_top" := He.noat_ok (T.says.more 74 (e := noatB "Amount" "own_top") rfl)
theorem Tx.no_Amount_own_bottom (T : Tx K mg base) : NoAttr K (He.ga K "Amount") "own_bottom" := He.noat_ok (T.says.more 75 (e := noatB "Amount" "own_bottom") rfl)
theorem Tx.pr_Amount_top (T : Tx K mg base) : ∃ p, PropOf K (He.ga K "Amount") "top" p (propAt "Amount" "top" K) := propB_ok (T.says.more 76 (e := propB "Amount" "top") rfl)
theorem Tx.pr_Amount_bottom (T : Tx K mg base) : ∃ p, PropOf K (He.ga K "Amount") "bottom" p (propAt "Amount" "bottom" K) := propB_ok (T.says.more 77 (e := propB "Amount" "bottom") rfl)
theorem Tx.k_NoneType_Amount (T : Tx K mg base) : PySem.W.kitOne K ((fun _ => .type "NoneType") K) ((fun K => .ref (He.ga K "Amount")) K) = some false := kitB_ok (T.says.more 78 (e := kitB (fun _ => .type "NoneType") (fun K => .ref (He.ga K "Amount")) false) rfl)
theorem Tx.k_bool_Amount (T : Tx K mg base) : PySem.W.kitOne K ((fun _ => .type "bool") K) ((fun K => .ref (He.ga K "Amount")) K) = some false := kitB_ok (T.says.more 79 (e := kitB (fun _ => .type "bool") (fun K => .ref (He.ga K "Amount")) false) rfl)
theorem Tx.k_int_Amount (T : Tx K mg base) : PySem.W.kitOne K ((fun _ => .type "int") K) ((fun K => .ref (He.ga K "Amount")) K) = some false := kitB_ok (T.says.more 80 (e := kitB (fun _ => .type "int") (fun K => .ref (He.ga K "Amount")) false) rfl)
theorem Tx.k_str_Amount (T : Tx K mg base) : PySem.W.kitOne K ((fun _ => .type "str") K) ((fun K => .ref (He.ga K "Amount")) K) = some false := kitB_ok (T.says.more 81 (e := kitB (fun _ => .type "str") (fun K => .ref (He.ga K "Amount")) false) rfl)
theorem Tx.k_list_Amount (T : Tx K mg base) : PySem.W.kitOne K ((fun _ => .type "list") K) ((fun K => .ref (He.ga K "Amount")) K) = some false := kitB_ok (T.says.more 82 (e := kitB (fun _ => .type "list") (fun K => .ref (He.ga K "Amount")) false) rfl)
theorem Tx.k_tuple_Amount (T : Tx K mg base) : PySem.W.kitOne K ((fun _ => .type "tuple") K) ((fun K => .ref (He.ga K "Amount")) K) = some false := kitB_ok (T.says.more 83 (e := kitB (fun _ => .type "tuple") (fun K => .ref (He.ga K "Amount")) false) rfl)
theorem Tx.k_dict_Amount (T : Tx K mg base) : PySem.W.kitOne K ((fun _ => .type "dict") K) ((fun K => .ref (He.ga K "Amount")) K) = some false := kitB_ok (T.says.more 84 (e := kitB (fun _ => .type "dict") (fun K => .ref (He.ga K "Amount")) false) rfl)
theorem Tx.k_Amount_Amount (T : Tx K mg base) : PySem.W.kitOne K ((fun K => .ref (He.ga K "Amount")) K) ((fun K => .ref (He.ga K "Amount")) K) = some true := kitB_ok (T.says.more 85 (e := kitB (fun K => .ref (He.ga K "Amount")) (fun K => .ref (He.ga K "Amount")) true) rfl)
theorem Tx.k_Amount_bool (T : Tx K mg base) : PySem.W.kitOne K ((fun K => .ref (He.ga K "Amount")) K) ((fun _ => .type "bool") K) = some false := kitB_ok (T.says.more 86 (e := kitB (fun K => .ref (He.ga K "Amount")) (fun _ => .type "bool") false) rfl)
theorem Tx.k_Amount_int (T : Tx K mg base) : PySem.W.kitOne K ((fun K => .ref (He.ga K "Amount")) K) ((fun _ => .type "int") K) = some false := kitB_ok (T.says.more 87 (e := kitB (fun K => .ref (He.ga K "Amount")) (fun _ => .type "int") false) rfl)
theorem Tx.k_Amount_str (T : Tx K mg base) : PySem.W.kitOne K ((fun K => .ref (He.ga K "Amount")) K) ((fun _ => .type "str") K) = some false := kitB_ok (T.says.more 88 (e := kitB (fun K => .ref (He.ga K "Amount")) (fun _ => .type "str") false) rfl)
theorem Tx.k_Amount_list (T : Tx K mg base) : PySem.W.kitOne K ((fun K => .ref (He.ga K "Amount")) K) ((fun _ => .type "list") K) = some false := kitB_ok (T.says.more 89 (e := kitB (fun K => .ref (He.ga K "Amount")) (fun _ => .type "list") false) rfl)
theorem Tx.k_Amount_tuple (T : Tx K mg base) : PySem.W.kitOne K ((fun K => .ref (He.ga K "Amount")) K) ((fun _ => .type "tuple") K) = some false := kitB_ok (T.says.more 90 (e := kitB (fun K => .ref (He.ga K "Amount")) (fun _ => .type "tuple") false) rfl)
theorem Tx.k_Amount_dict (T : Tx K mg base) : PySem.W.kitOne K ((fun K => .ref (He.ga K "Amount")) K) ((fun _ => .type "dict") K) = some false := kitB_ok (T.says.more 91 (e := kitB (fun K => .ref (He.ga K "Amount")) (fun _ => .type "dict") false) rfl)
theorem Tx.ba_CueError (T : Tx K mg base) : Ba K "CueError" := baB_ok (T.says.more 92 (e := fun K => baB K "CueError") rfl)
theorem Tx.xc_InvalidInteger (T : Tx K mg base) : Xc K "InvalidInteger" "value" := xcB_ok (T.says.more 93 (e := fun K => xcB K "InvalidInteger" "value") rfl)
theorem Tx.xc_InvalidAmount (T : Tx K mg base) : Xc K "InvalidAmount" "value" := xcB_ok (T.says.more 94 (e := fun K => xcB K "InvalidAmount" "value") rfl)
theorem Tx.xc_InvalidUnit (T : Tx K mg base) : Xc K "InvalidUnit" "value" := xcB_ok (T.says.more 95 (e := fun K => xcB K "InvalidUnit" "value") rfl)
theorem Tx.xc_InvalidWord (T : Tx K mg base) : Xc K "InvalidWord" "value" := xcB_ok (T.says.more 96 (e := fun K => xcB K "InvalidWord" "value") rfl)
theorem Tx.ex_InvalidInteger_InvalidInteger (T : Tx K mg base) : PySem.W.exmOne K (.ref (He.ga K "InvalidInteger")) (.ref (He.ga K "InvalidInteger")) = some true := He.exm_ok (T.says.more 97 (e := exmB "InvalidInteger" "InvalidInteger" true) rfl)
theorem Tx.ex_InvalidInteger_InvalidAmount (T : Tx K mg base) : PySem.W.exmOne K (.ref (He.ga K "InvalidInteger")) (.ref (He.ga K "InvalidAmount")) = some false := He.exm_ok (T.says.more 98 (e := exmB "InvalidInteger" "InvalidAmount" false) rfl)
theorem Tx.ex_InvalidInteger_InvalidUnit (T : Tx K mg base) : PySem.W.exmOne K (.ref (He.ga K "InvalidInteger")) (.ref (He.ga K "InvalidUnit")) = some false := He.exm_ok (T.says.more 99 (e := exmB "InvalidInteger" "InvalidUnit" false) rfl)
theorem Tx.ex_InvalidInteger_InvalidWord (T : Tx K mg base) : PySem.W.exmOne K (.ref (He.ga K "InvalidInteger")) (.ref (He.ga K "InvalidWord")) = some false := He.exm_ok (T.says.more 100 (e := exmB "InvalidInteger" "InvalidWord" false) rfl)
theorem Tx.ex_InvalidAmount_InvalidInteger (T : Tx K mg base) : PySem.W.exmOne K (.ref (He.ga K "InvalidAmount")) (.ref (He.ga K "InvalidInteger")) = some false := He.exm_ok (T.says.more 101 (e := exmB "InvalidAmount" "InvalidInteger" false) rfl)
theorem Tx.ex_InvalidAmount_InvalidAmount (T : Tx K mg base) : PySem.W.exmOne K (.ref (He.ga K "InvalidAmount")) (.ref (He.ga K "InvalidAmount")) = some true := He.exm_ok (T.says.more 102 (e := exmB "InvalidAmount" "InvalidAmount" true) rfl)
theorem Tx.ex_InvalidAmount_InvalidUnit (T : Tx K mg base) : PySem.W.exmOne K (.ref (He.ga K "InvalidAmount")) (.ref (He.ga K "InvalidUnit")) = some false := He.exm_ok (T.says.more 103 (e := exmB "InvalidAmount" "InvalidUnit" false) rfl)
theorem Tx.ex_InvalidAmount_InvalidWord (T : Tx K mg base) : PySem.W.exmOne K (.ref (He.ga K "InvalidAmount")) (.ref (He.ga K "InvalidWord")) = some false := He.exm_ok (T.says.more 104 (e := exmB "InvalidAmount" "InvalidWord" false) rfl)
theorem Tx.ex_InvalidUnit_InvalidInteger (T : Tx K mg base) : PySem.W.exmOne K (.ref (He.ga K "InvalidUnit")) (.ref (He.ga K "InvalidInteger")) = some false := He.exm_ok (T.says.more 105 (e := exmB "InvalidUnit" "InvalidInteger" false) rfl)
theorem Tx.ex_InvalidUnit_InvalidAmount (T : Tx K mg base) : PySem.W.exmOne K (.ref (He.ga K "InvalidUnit")) (.ref (He.ga K "InvalidAmount")) = some false := He.exm_ok (T.says.more 106 (e := exmB "InvalidUnit" "InvalidAmount" false) rfl)
theorem Tx.ex_InvalidUnit_InvalidUnit (T : Tx K mg base) : PySem.W.exmOne K (.ref (He.ga K "InvalidUnit")) (.ref (He.ga K "InvalidUnit")) = some true := He.exm_ok (T.says.more 107 (e := exmB "InvalidUnit" "InvalidUnit" true) rfl)
theorem Tx.ex_InvalidUnit_InvalidWord (T : Tx K mg base) : PySem.W.exmOne K (.ref (He.ga K "InvalidUnit")) (.ref (He.ga K "InvalidWord")) = some false := He.exm_ok (T.says.more 108 (e := exmB "InvalidUnit" "InvalidWord" false) rfl)
theorem Tx.ex_InvalidWord_InvalidInteger (T : Tx K mg base) : PySem.W.exmOne K (.ref (He.ga K "InvalidWord")) (.ref (He.ga K "InvalidInteger")) = some false := He.exm_ok (T.says.more 109 (e := exmB "InvalidWord" "InvalidInteger" false) rfl)
theorem Tx.ex_InvalidWord_InvalidAmount (T : Tx K mg base) : PySem.W.exmOne K (.ref (He.ga K "InvalidWord")) (.ref (He.ga K "InvalidAmount")) = some false := He.exm_ok (T.says.more 110 (e := exmB "InvalidWord" "InvalidAmount" false) rfl)
theorem Tx.ex_InvalidWord_InvalidUnit (T : Tx K mg base) : PySem.W.exmOne K (.ref (He.ga K "InvalidWord")) (.ref (He.ga K "InvalidUnit")) = some false := He.exm_ok (T.says.more 111 (e := exmB "InvalidWord" "InvalidUnit" false) rfl)
theorem Tx.ex_InvalidWord_InvalidWord (T : Tx K mg base) : PySem.W.exmOne K (.ref (He.ga K "InvalidWord")) (.ref (He.ga K "InvalidWord")) = some true := He.exm_ok (T.says.more 112 (e := exmB "InvalidWord" "InvalidWord" true) rfl)
theorem Tx.sys (T : Tx K mg base) : ∃ o, K.lookup sysModules = some o ∧ o.cls = .type "dict" := sysB_ok (T.says.more 113 (e := sysB) rfl)
theorem Tx.f_InvalidInteger_init_ (T : Tx K mg base) : ∃ fd, FunD K d_InvalidInteger_init_.name d_InvalidInteger_init_.qual (defArgs s_InvalidInteger_init_) (defBody s_InvalidInteger_init_) (defScope s_InvalidInteger_init_) (d_InvalidInteger_init_.dvs K) (d_InvalidInteger_init_.kws K) (d_InvalidInteger_init_.loc K) fd := T.says.fun_ 0 (d := d_InvalidInteger_init_) rfl
theorem Tx.f_InvalidAmount_init_ (T : Tx K mg base) : ∃ fd, FunD K d_InvalidAmount_init_.name d_InvalidAmount_init_.qual (defArgs s_InvalidAmount_init_) (defBody s_InvalidAmount_init_) (defScope s_InvalidAmount_init_) (d_InvalidAmount_init_.dvs K) (d_InvalidAmount_init_.kws K) (d_InvalidAmount_init_.loc K) fd := T.says.fun_ 1 (d := d_InvalidAmount_init_) rfl
theorem Tx.f_InvalidUnit_init_ (T : Tx K mg base) : ∃ fd, FunD K d_InvalidUnit_init_.name d_InvalidUnit_init_.qual (defArgs s_InvalidUnit_init_) (defBody s_InvalidUnit_init_) (defScope s_InvalidUnit_init_) (d_InvalidUnit_init_.dvs K) (d_InvalidUnit_init_.kws K) (d_InvalidUnit_init_.loc K) fd := T.says.fun_ 2 (d := d_InvalidUnit_init_) rfl
theorem Tx.f_InvalidWord_init_ (T : Tx K mg base) : ∃ fd, FunD K d_InvalidWord_init_.name d_InvalidWord_init_.qual (defArgs s_InvalidWord_init_) (defBody s_InvalidWord_init_) (defScope s_InvalidWord_init_) (d_InvalidWord_init_.dvs K) (d_InvalidWord_init_.kws K) (d_InvalidWord_init_.loc K) fd := T.says.fun_ 3 (d := d_InvalidWord_init_) rfl
theorem Tx.f_is_whole (T : Tx K mg base) : ∃ fd, FunD K d_is_whole.name d_is_whole.qual (defArgs s_is_whole) (defBody s_is_whole) (defScope s_is_whole) (d_is_whole.dvs K) (d_is_whole.kws K) (d_is_whole.loc K) fd := T.says.fun_ 4 (d := d_is_whole) rfl
theorem Tx.f_is_integer (T : Tx K mg base) : ∃ fd, FunD K d_is_integer.name d_is_integer.qual (defArgs s_is_integer) (defBody s_is_integer) (defScope s_is_integer) (d_is_integer.dvs K) (d_is_integer.kws K) (d_is_integer.loc K) fd := T.says.fun_ 5 (d := d_is_integer) rfl
theorem Tx.f_is_name (T : Tx K mg base) : ∃ fd, FunD K d_is_name.name d_is_name.qual (defArgs s_is_name) (defBody s_is_name) (defScope s_is_name) (d_is_name.dvs K) (d_is_name.kws K) (d_is_name.loc K) fd := T.says.fun_ 6 (d := d_is_name) rfl
theorem Tx.f_is_unit (T : Tx K mg base) : ∃ fd, FunD K d_is_unit.name d_is_unit.qual (defArgs s_is_unit) (defBody s_is_unit) (defScope s_is_unit) (d_is_unit.dvs K) (d_is_unit.kws K) (d_is_unit.loc K) fd := T.says.fun_ 7 (d := d_is_unit) rfl
theorem Tx.f_is_word (T : Tx K mg base) : ∃ fd, FunD K d_is_word.name d_is_word.qual (defArgs s_is_word) (defBody s_is_word) (defScope s_is_word) (d_is_word.dvs K) (d_is_word.kws K) (d_is_word.loc K) fd := T.says.fun_ 8 (d := d_is_word) rfl
theorem Tx.f_need_unit (T : Tx K mg base) : ∃ fd, FunD K d_need_unit.name d_need_unit.qual (defArgs s_need_unit) (defBody s_need_unit) (defScope s_need_unit) (d_need_unit.dvs K) (d_need_unit.kws K) (d_need_unit.loc K) fd := T.says.fun_ 9 (d := d_need_unit) rfl
theorem Tx.f_need_word (T : Tx K mg base) : ∃ fd, FunD K d_need_word.name d_need_word.qual (defArgs s_need_word) (defBody s_need_word) (defScope s_need_word) (d_need_word.dvs K) (d_need_word.kws K) (d_need_word.loc K) fd := T.says.fun_ 10 (d := d_need_word) rfl
theorem Tx.f_other_unit (T : Tx K mg base) : ∃ fd, FunD K d_other_unit.name d_other_unit.qual (defArgs s_other_unit) (defBody s_other_unit) (defScope s_other_unit) (d_other_unit.dvs K) (d_other_unit.kws K) (d_other_unit.loc K) fd := T.says.fun_ 11 (d := d_other_unit) rfl
theorem Tx.f_turned (T : Tx K mg base) : ∃ fd, FunD K d_turned.name d_turned.qual (defArgs s_turned) (defBody s_turned) (defScope s_turned) (d_turned.dvs K) (d_turned.kws K) (d_turned.loc K) fd := T.says.fun_ 12 (d := d_turned) rfl
theorem Tx.f_common_factor (T : Tx K mg base) : ∃ fd, FunD K d_common_factor.name d_common_factor.qual (defArgs s_common_factor) (defBody s_common_factor) (defScope s_common_factor) (d_common_factor.dvs K) (d_common_factor.kws K) (d_common_factor.loc K) fd := T.says.fun_ 13 (d := d_common_factor) rfl
theorem Tx.f_Amount_init_ (T : Tx K mg base) : ∃ fd, FunD K d_Amount_init_.name d_Amount_init_.qual (defArgs s_Amount_init_) (defBody s_Amount_init_) (defScope s_Amount_init_) (d_Amount_init_.dvs K) (d_Amount_init_.kws K) (d_Amount_init_.loc K) fd := T.says.fun_ 14 (d := d_Amount_init_) rfl
theorem Tx.f_Amount_top (T : Tx K mg base) : ∃ fd, FunD K d_Amount_top.name d_Amount_top.qual (defArgs s_Amount_top) (defBody s_Amount_top) (defScope s_Amount_top) (d_Amount_top.dvs K) (d_Amount_top.kws K) (d_Amount_top.loc K) fd := T.says.fun_ 15 (d := d_Amount_top) rfl
theorem Tx.f_Amount_bottom (T : Tx K mg base) : ∃ fd, FunD K d_Amount_bottom.name d_Amount_bottom.qual (defArgs s_Amount_bottom) (defBody s_Amount_bottom) (defScope s_Amount_bottom) (d_Amount_bottom.dvs K) (d_Amount_bottom.kws K) (d_Amount_bottom.loc K) fd := T.says.fun_ 16 (d := d_Amount_bottom) rfl
theorem Tx.f_Amount_eq_ (T : Tx K mg base) : ∃ fd, FunD K d_Amount_eq_.name d_Amount_eq_.qual (defArgs s_Amount_eq_) (defBody s_Amount_eq_) (defScope s_Amount_eq_) (d_Amount_eq_.dvs K) (d_Amount_eq_.kws K) (d_Amount_eq_.loc K) fd := T.says.fun_ 17 (d := d_Amount_eq_) rfl
theorem Tx.f_Amount_add_ (T : Tx K mg base) : ∃ fd, FunD K d_Amount_add_.name d_Amount_add_.qual (defArgs s_Amount_add_) (defBody s_Amount_add_) (defScope s_Amount_add_) (d_Amount_add_.dvs K) (d_Amount_add_.kws K) (d_Amount_add_.loc K) fd := T.says.fun_ 18 (d := d_Amount_add_) rfl
theorem Tx.f_Amount_sub_ (T : Tx K mg base) : ∃ fd, FunD K d_Amount_sub_.name d_Amount_sub_.qual (defArgs s_Amount_sub_) (defBody s_Amount_sub_) (defScope s_Amount_sub_) (d_Amount_sub_.dvs K) (d_Amount_sub_.kws K) (d_Amount_sub_.loc K) fd := T.says.fun_ 19 (d := d_Amount_sub_) rfl
theorem Tx.f_Amount_mul_ (T : Tx K mg base) : ∃ fd, FunD K d_Amount_mul_.name d_Amount_mul_.qual (defArgs s_Amount_mul_) (defBody s_Amount_mul_) (defScope s_Amount_mul_) (d_Amount_mul_.dvs K) (d_Amount_mul_.kws K) (d_Amount_mul_.loc K) fd := T.says.fun_ 20 (d := d_Amount_mul_) rfl
theorem Tx.f_Amount_divided (T : Tx K mg base) : ∃ fd, FunD K d_Amount_divided.name d_Amount_divided.qual (defArgs s_Amount_divided) (defBody s_Amount_divided) (defScope s_Amount_divided) (d_Amount_divided.dvs K) (d_Amount_divided.kws K) (d_Amount_divided.loc K) fd := T.says.fun_ 21 (d := d_Amount_divided) rfl
theorem Tx.f_Amount_neg_ (T : Tx K mg base) : ∃ fd, FunD K d_Amount_neg_.name d_Amount_neg_.qual (defArgs s_Amount_neg_) (defBody s_Amount_neg_) (defScope s_Amount_neg_) (d_Amount_neg_.dvs K) (d_Amount_neg_.kws K) (d_Amount_neg_.loc K) fd := T.says.fun_ 22 (d := d_Amount_neg_) rfl
theorem Tx.f_Amount_abs_ (T : Tx K mg base) : ∃ fd, FunD K d_Amount_abs_.name d_Amount_abs_.qual (defArgs s_Amount_abs_) (defBody s_Amount_abs_) (defScope s_Amount_abs_) (d_Amount_abs_.dvs K) (d_Amount_abs_.kws K) (d_Amount_abs_.loc K) fd := T.says.fun_ 23 (d := d_Amount_abs_) rfl
theorem Tx.f_Amount_compare (T : Tx K mg base) : ∃ fd, FunD K d_Amount_compare.name d_Amount_compare.qual (defArgs s_Amount_compare) (defBody s_Amount_compare) (defScope s_Amount_compare) (d_Amount_compare.dvs K) (d_Amount_compare.kws K) (d_Amount_compare.loc K) fd := T.says.fun_ 24 (d := d_Amount_compare) rfl
theorem Tx.f_amount_from (T : Tx K mg base) : ∃ fd, FunD K d_amount_from.name d_amount_from.qual (defArgs s_amount_from) (defBody s_amount_from) (defScope s_amount_from) (d_amount_from.dvs K) (d_amount_from.kws K) (d_amount_from.loc K) fd := T.says.fun_ 25 (d := d_amount_from) rfl
theorem Tx.f_amount_text (T : Tx K mg base) : ∃ fd, FunD K d_amount_text.name d_amount_text.qual (defArgs s_amount_text) (defBody s_amount_text) (defScope s_amount_text) (d_amount_text.dvs K) (d_amount_text.kws K) (d_amount_text.loc K) fd := T.says.fun_ 26 (d := d_amount_text) rfl
theorem Tx.f_number_of (T : Tx K mg base) : ∃ fd, FunD K d_number_of.name d_number_of.qual (defArgs s_number_of) (defBody s_number_of) (defScope s_number_of) (d_number_of.dvs K) (d_number_of.kws K) (d_number_of.loc K) fd := T.says.fun_ 27 (d := d_number_of) rfl
theorem Tx.f_amount_of (T : Tx K mg base) : ∃ fd, FunD K d_amount_of.name d_amount_of.qual (defArgs s_amount_of) (defBody s_amount_of) (defScope s_amount_of) (d_amount_of.dvs K) (d_amount_of.kws K) (d_amount_of.loc K) fd := T.says.fun_ 28 (d := d_amount_of) rfl
theorem Tx.f_w_cell (T : Tx K mg base) : ∃ fd, FunD K d_w_cell.name d_w_cell.qual (defArgs s_w_cell) (defBody s_w_cell) (defScope s_w_cell) (d_w_cell.dvs K) (d_w_cell.kws K) (d_w_cell.loc K) fd := T.says.fun_ 29 (d := d_w_cell) rfl
theorem Tx.f_w_box (T : Tx K mg base) : ∃ fd, FunD K d_w_box.name d_w_box.qual (defArgs s_w_box) (defBody s_w_box) (defScope s_w_box) (d_w_box.dvs K) (d_w_box.kws K) (d_w_box.loc K) fd := T.says.fun_ 30 (d := d_w_box) rfl
theorem Tx.f_w_take (T : Tx K mg base) : ∃ fd, FunD K d_w_take.name d_w_take.qual (defArgs s_w_take) (defBody s_w_take) (defScope s_w_take) (d_w_take.dvs K) (d_w_take.kws K) (d_w_take.loc K) fd := T.says.fun_ 31 (d := d_w_take) rfl
theorem Tx.f_w_lowest (T : Tx K mg base) : ∃ fd, FunD K d_w_lowest.name d_w_lowest.qual (defArgs s_w_lowest) (defBody s_w_lowest) (defScope s_w_lowest) (d_w_lowest.dvs K) (d_w_lowest.kws K) (d_w_lowest.loc K) fd := T.says.fun_ 32 (d := d_w_lowest) rfl
theorem Tx.f_w_line (T : Tx K mg base) : ∃ fd, FunD K d_w_line.name d_w_line.qual (defArgs s_w_line) (defBody s_w_line) (defScope s_w_line) (d_w_line.dvs K) (d_w_line.kws K) (d_w_line.loc K) fd := T.says.fun_ 33 (d := d_w_line) rfl
theorem Tx.f_w_number (T : Tx K mg base) : ∃ fd, FunD K d_w_number.name d_w_number.qual (defArgs s_w_number) (defBody s_w_number) (defScope s_w_number) (d_w_number.dvs K) (d_w_number.kws K) (d_w_number.loc K) fd := T.says.fun_ 34 (d := d_w_number) rfl
theorem Tx.f_w_read (T : Tx K mg base) : ∃ fd, FunD K d_w_read.name d_w_read.qual (defArgs s_w_read) (defBody s_w_read) (defScope s_w_read) (d_w_read.dvs K) (d_w_read.kws K) (d_w_read.loc K) fd := T.says.fun_ 35 (d := d_w_read) rfl
theorem Tx.f_w_lines_right (T : Tx K mg base) : ∃ fd, FunD K d_w_lines_right.name d_w_lines_right.qual (defArgs s_w_lines_right) (defBody s_w_lines_right) (defScope s_w_lines_right) (d_w_lines_right.dvs K) (d_w_lines_right.kws K) (d_w_lines_right.loc K) fd := T.says.fun_ 36 (d := d_w_lines_right) rfl
theorem Tx.f_w_is_named (T : Tx K mg base) : ∃ fd, FunD K d_w_is_named.name d_w_is_named.qual (defArgs s_w_is_named) (defBody s_w_is_named) (defScope s_w_is_named) (d_w_is_named.dvs K) (d_w_is_named.kws K) (d_w_is_named.loc K) fd := T.says.fun_ 37 (d := d_w_is_named) rfl
theorem Tx.f_w_words_right (T : Tx K mg base) : ∃ fd, FunD K d_w_words_right.name d_w_words_right.qual (defArgs s_w_words_right) (defBody s_w_words_right) (defScope s_w_words_right) (d_w_words_right.dvs K) (d_w_words_right.kws K) (d_w_words_right.loc K) fd := T.says.fun_ 38 (d := d_w_words_right) rfl
theorem Tx.f_w_told (T : Tx K mg base) : ∃ fd, FunD K d_w_told.name d_w_told.qual (defArgs s_w_told) (defBody s_w_told) (defScope s_w_told) (d_w_told.dvs K) (d_w_told.kws K) (d_w_told.loc K) fd := T.says.fun_ 39 (d := d_w_told) rfl
theorem Tx.f_w_things_right (T : Tx K mg base) : ∃ fd, FunD K d_w_things_right.name d_w_things_right.qual (defArgs s_w_things_right) (defBody s_w_things_right) (defScope s_w_things_right) (d_w_things_right.dvs K) (d_w_things_right.kws K) (d_w_things_right.loc K) fd := T.says.fun_ 40 (d := d_w_things_right) rfl
theorem Tx.f_law (T : Tx K mg base) : ∃ fd, FunD K d_law.name d_law.qual (defArgs s_law) (defBody s_law) (defScope s_law) (d_law.dvs K) (d_law.kws K) (d_law.loc K) fd := T.says.fun_ 41 (d := d_law) rfl
end
def nm0 : List PySem.Str := [("_wall" : PySem.Str), ("CueError" : PySem.Str), ("InvalidInteger" : PySem.Str), ("InvalidAmount" : PySem.Str), ("InvalidUnit" : PySem.Str), ("InvalidWord" : PySem.Str), ("BEATS" : PySem.Str), ("SECONDS" : PySem.Str), ("UNITS" : PySem.Str), ("BEFORE" : PySem.Str), ("SAME" : PySem.Str), ("AFTER" : PySem.Str), ("WORDS" : PySem.Str), ("LETTERS" : PySem.Str), ("DIGITS" : PySem.Str), ("LONGEST_NAME" : PySem.Str), ("is_whole" : PySem.Str), ("is_integer" : PySem.Str), ("is_name" : PySem.Str), ("is_unit" : PySem.Str), ("is_word" : PySem.Str), ("need_unit" : PySem.Str), ("need_word" : PySem.Str), ("other_unit" : PySem.Str), ("turned" : PySem.Str), ("LONGEST_TOP" : PySem.Str), ("LONGEST_BOTTOM" : PySem.Str), ("MOST_BOTTOM" : PySem.Str), ("common_factor" : PySem.Str), ("Amount" : PySem.Str), ("amount_from" : PySem.Str), ("amount_text" : PySem.Str), ("number_of" : PySem.Str), ("amount_of" : PySem.Str), ("_law_cell" : PySem.Str)]
def nm1 : List PySem.Str := [("_law_box" : PySem.Str), ("_law_take" : PySem.Str), ("_law_lowest" : PySem.Str), ("_law_line" : PySem.Str), ("_law_number" : PySem.Str), ("_law_read" : PySem.Str), ("_law_lines_right" : PySem.Str), ("_law_is_named" : PySem.Str), ("_law_words_right" : PySem.Str), ("_law_told" : PySem.Str), ("_law_things_right" : PySem.Str)]
def names : List PySem.Str := nm0 ++ nm1
def lawAt : Nat := 50
end K03

set_option maxHeartbeats 4000000
namespace K03
open PySem PySem.Spec PyProof.Rows L2 AT
/-! ### values of any kind -/
abbrev cA (K : PySem.W.Frag) : Addr := He.ga K "Amount"
def amtF (n d : Int) : List (Str × V) := [("own_top", .int n), ("own_bottom", .int d)]
def IsAmt (K : PySem.W.Frag) (H : Hp) (p : Addr) (n d : Int) : Prop := ∃ dx, H p = some (.ins (cA K) dx (amtF n d))
inductive AnyV (K : PySem.W.Frag) (H : Hp) : V → Prop where
  | non : AnyV K H .non
  | bl (b : Bool) : AnyV K H (.bl b)
  | int (i : Int) : AnyV K H (.int i)
  | str (x : Str) : AnyV K H (.str x)
  | lst {a : Addr} {xs : List V} (e : H a = some (.lst xs)) : AnyV K H (.ref a)
  | tup {a : Addr} {xs : List V} (e : H a = some (.tup xs)) : AnyV K H (.ref a)
  | dct {a : Addr} {kvs : List (Key × V)} (e : H a = some (.dK kvs)) : AnyV K H (.ref a)
  | amt {a : Addr} {n d : Int} (e : IsAmt K H a n d) : AnyV K H (.ref a)
def wholeV : V → Bool
  | .int _ => true
  | _ => false
def intV : V → Bool
  | .int _ => true
  | .bl _ => true
  | _ => false
def blV : V → Bool
  | .bl _ => true
  | _ => false
def strV : V → Bool
  | .str _ => true
  | _ => false
section
variable {P : Program} {w : World} {K : PySem.W.Frag} {mg : Str → Option Value} {base : Heap}
theorem isi_int (T : Tx K mg base) {H : Hp} {v : V} (h : AnyV K H v) : ∃ t, TyX K H v t ∧ PySem.W.kitOne K t (.type "int") = some (intV v) := by
  cases h with
  | non  => exact ⟨_, .base .non, kit_ty (r := false) (by decide +kernel)⟩
  | bl b => exact ⟨_, .base (.bl b), kit_ty (r := true) (by decide +kernel)⟩
  | int i => exact ⟨_, .base (.int i), kit_ty (r := true) (by decide +kernel)⟩
  | str x => exact ⟨_, .base (.str x), kit_ty (r := false) (by decide +kernel)⟩
  | lst e => exact ⟨_, .base (.lst e), kit_ty (r := false) (by decide +kernel)⟩
  | tup e => exact ⟨_, .base (.tup e), kit_ty (r := false) (by decide +kernel)⟩
  | dct e => exact ⟨_, .base (.dK e), kit_ty (r := false) (by decide +kernel)⟩
  | amt e => obtain ⟨dx, e⟩ := e; exact ⟨_, T.ins_Amount e, T.k_Amount_int⟩
theorem isi_bool (T : Tx K mg base) {H : Hp} {v : V} (h : AnyV K H v) : ∃ t, TyX K H v t ∧ PySem.W.kitOne K t (.type "bool") = some (blV v) := by
  cases h with
  | non  => exact ⟨_, .base .non, kit_ty (r := false) (by decide +kernel)⟩
  | bl b => exact ⟨_, .base (.bl b), kit_ty (r := true) (by decide +kernel)⟩
  | int i => exact ⟨_, .base (.int i), kit_ty (r := false) (by decide +kernel)⟩
  | str x => exact ⟨_, .base (.str x), kit_ty (r := false) (by decide +kernel)⟩
  | lst e => exact ⟨_, .base (.lst e), kit_ty (r := false) (by decide +kernel)⟩
  | tup e => exact ⟨_, .base (.tup e), kit_ty (r := false) (by decide +kernel)⟩
  | dct e => exact ⟨_, .base (.dK e), kit_ty (r := false) (by decide +kernel)⟩
  | amt e => obtain ⟨dx, e⟩ := e; exact ⟨_, T.ins_Amount e, T.k_Amount_bool⟩
theorem isi_str (T : Tx K mg base) {H : Hp} {v : V} (h : AnyV K H v) : ∃ t, TyX K H v t ∧ PySem.W.kitOne K t (.type "str") = some (strV v) := by
  cases h with
  | non  => exact ⟨_, .base .non, kit_ty (r := false) (by decide +kernel)⟩
  | bl b => exact ⟨_, .base (.bl b), kit_ty (r := false) (by decide +kernel)⟩
  | int i => exact ⟨_, .base (.int i), kit_ty (r := false) (by decide +kernel)⟩
  | str x => exact ⟨_, .base (.str x), kit_ty (r := true) (by decide +kernel)⟩
  | lst e => exact ⟨_, .base (.lst e), kit_ty (r := false) (by decide +kernel)⟩
  | tup e => exact ⟨_, .base (.tup e), kit_ty (r := false) (by decide +kernel)⟩
  | dct e => exact ⟨_, .base (.dK e), kit_ty (r := false) (by decide +kernel)⟩
  | amt e => obtain ⟨dx, e⟩ := e; exact ⟨_, T.ins_Amount e, T.k_Amount_str⟩
/-! ### the exceptions' own __init__ -/
theorem ok_InvalidInteger_init_ (T : Tx K mg base) : Ok P w K mg base 1 (He.ma K (He.ga K "InvalidInteger") "__init__") ["self", "value"] (spXi K (He.ga K "InvalidInteger") "value") := by
  refine mk_ok (N := ["self", "value"]) T.f_InvalidInteger_init_ ⟨rfl, rfl, rfl, by decide +kernel, rfl, by decide +kernel, by decide +kernel⟩ (fun _ _ _ _ _ _ us hl => match us, hl with | [_, _], _ => rfl) (fun vs H Q E h => ?_) (fun cdv A outer s H vs Q E hr h => ?_)
  · obtain ⟨a, v, rfl, _⟩ := h
    rfl
  · exact ⟨_, pss_cons (ps_expr (pe_cinit T.ba_CueError rfl T.g_CueError (pa_cons (pv 0) (pa_cons pe_str pa_nil)))) (pss_one (ps_ost (pv 0) (pv 1))), xi_reading rfl vs H Q E h⟩
/-! ### is_whole, is_integer -/
def spWhole (K : PySem.W.Frag) : Sp := fun vs H Q _ => ∃ v, vs = [v] ∧ AnyV K H v ∧ Q (.bl (wholeV v)) H
theorem sc_is_whole : FnScope ["value"] ["value"] (defScope s_is_whole) := ⟨rfl, rfl, rfl, by decide +kernel, rfl, by decide +kernel, by decide +kernel⟩
theorem ok_is_whole (T : Tx K mg base) : Ok P w K mg base 1 (d_is_whole.loc K) ["value"] (spWhole K) := by
  refine mk_ok (k := 0) T.f_is_whole sc_is_whole (fun _ _ _ _ _ _ us hl => match us, hl with | [_], _ => rfl) (fun vs H Q E h => ?_) (fun cdv A outer s H vs Q E hr h => ?_)
  · obtain ⟨v, rfl, _⟩ := h
    rfl
  · obtain ⟨v, rfl, hv, k⟩ := h
    refine ⟨_, (pss_one (ps_ret (pe_and (pe_callB call_isi (by rfl) T.b_isinstance (by decide +kernel) (pa_cons (pv 0) (pa_cons (pe_bltn (v := .ty "int") rfl T.b_int (by decide +kernel) rfl) pa_nil))) (pe_one (pe_not (pe_callB call_isi (by rfl) T.b_isinstance (by decide +kernel) (pa_cons (pv 0) (pa_cons (pe_bltn (v := .ty "bool") rfl T.b_bool (by decide +kernel) rfl) pa_nil)))))))), ?_⟩
    obtain ⟨t1, y1, q1⟩ := isi_int T hv
    obtain ⟨t2, y2, q2⟩ := isi_bool T hv
    refine ⟨_, rfl, _, _, _, _, _, rfl, .ty _, y1, q1, _, rfl, ?_⟩
    cases hv with
    | bl b => exact ⟨_, rfl, _, _, _, _, _, rfl, .ty _, y2, q2, _, rfl, k⟩
    | int i => exact ⟨_, rfl, _, _, _, _, _, rfl, .ty _, y2, q2, _, rfl, k⟩
    | _ => exact k
end
end K03

set_option maxHeartbeats 4000000
namespace K03
open PySem PySem.Spec PyProof.Rows L2 AT
section
variable {P : Program} {w : World} {K : PySem.W.Frag} {mg : Str → Option Value} {base : Heap}
theorem ok_InvalidAmount_init_ (T : Tx K mg base) : Ok P w K mg base 1 (He.ma K (He.ga K "InvalidAmount") "__init__") ["self", "value"] (spXi K (He.ga K "InvalidAmount") "value") := by
  refine mk_ok (N := ["self", "value"]) T.f_InvalidAmount_init_ ⟨rfl, rfl, rfl, by decide +kernel, rfl, by decide +kernel, by decide +kernel⟩ (fun _ _ _ _ _ _ us hl => match us, hl with | [_, _], _ => rfl) (fun vs H Q E h => ?_) (fun cdv A outer s H vs Q E hr h => ?_)
  · obtain ⟨a, v, rfl, _⟩ := h
    rfl
  · exact ⟨_, pss_cons (ps_expr (pe_cinit T.ba_CueError rfl T.g_CueError (pa_cons (pv 0) (pa_cons pe_str pa_nil)))) (pss_one (ps_ost (pv 0) (pv 1))), xi_reading rfl vs H Q E h⟩
theorem ok_InvalidUnit_init_ (T : Tx K mg base) : Ok P w K mg base 1 (He.ma K (He.ga K "InvalidUnit") "__init__") ["self", "value"] (spXi K (He.ga K "InvalidUnit") "value") := by
  refine mk_ok (N := ["self", "value"]) T.f_InvalidUnit_init_ ⟨rfl, rfl, rfl, by decide +kernel, rfl, by decide +kernel, by decide +kernel⟩ (fun _ _ _ _ _ _ us hl => match us, hl with | [_, _], _ => rfl) (fun vs H Q E h => ?_) (fun cdv A outer s H vs Q E hr h => ?_)
  · obtain ⟨a, v, rfl, _⟩ := h
    rfl
  · exact ⟨_, pss_cons (ps_expr (pe_cinit T.ba_CueError rfl T.g_CueError (pa_cons (pv 0) (pa_cons pe_str pa_nil)))) (pss_one (ps_ost (pv 0) (pv 1))), xi_reading rfl vs H Q E h⟩
theorem ok_InvalidWord_init_ (T : Tx K mg base) : Ok P w K mg base 1 (He.ma K (He.ga K "InvalidWord") "__init__") ["self", "value"] (spXi K (He.ga K "InvalidWord") "value") := by
  refine mk_ok (N := ["self", "value"]) T.f_InvalidWord_init_ ⟨rfl, rfl, rfl, by decide +kernel, rfl, by decide +kernel, by decide +kernel⟩ (fun _ _ _ _ _ _ us hl => match us, hl with | [_, _], _ => rfl) (fun vs H Q E h => ?_) (fun cdv A outer s H vs Q E hr h => ?_)
  · obtain ⟨a, v, rfl, _⟩ := h
    rfl
  · exact ⟨_, pss_cons (ps_expr (pe_cinit T.ba_CueError rfl T.g_CueError (pa_cons (pv 0) (pa_cons pe_str pa_nil)))) (pss_one (ps_ost (pv 0) (pv 1))), xi_reading rfl vs H Q E h⟩
theorem mx_InvalidInteger {X : Cx} (T : Tx X.K X.mg X.base) (hr : Room 2 X.A) : MkX X "InvalidInteger" "value" := mk_X T.xc_InvalidInteger T.g_InvalidInteger (ok_InvalidInteger_init_ T) hr
theorem mx_InvalidAmount {X : Cx} (T : Tx X.K X.mg X.base) (hr : Room 2 X.A) : MkX X "InvalidAmount" "value" := mk_X T.xc_InvalidAmount T.g_InvalidAmount (ok_InvalidAmount_init_ T) hr
theorem mx_InvalidUnit {X : Cx} (T : Tx X.K X.mg X.base) (hr : Room 2 X.A) : MkX X "InvalidUnit" "value" := mk_X T.xc_InvalidUnit T.g_InvalidUnit (ok_InvalidUnit_init_ T) hr
theorem mx_InvalidWord {X : Cx} (T : Tx X.K X.mg X.base) (hr : Room 2 X.A) : MkX X "InvalidWord" "value" := mk_X T.xc_InvalidWord T.g_InvalidWord (ok_InvalidWord_init_ T) hr
/-! ### texts by their codes -/
def letters : Str := "abcdefghijklmnopqrstuvwxyz"
def digits : Str := "0123456789"
def inS (c : Nat) (z : Str) : Bool := decide (c ∈ z.cps.toList)
def isNameS (z : Str) : Bool := decide (0 < (z.length : Int)) && (decide ((z.length : Int) ≤ 8) && (inS (z.cps.getD 0 0) letters && z.cps.toList.all fun c => inS c letters || inS c digits))
def nameV : V → Bool
  | .str z => isNameS z
  | _ => false
def unitV : V → Bool
  | .str z => decide (z = "beats") || decide (z = "seconds")
  | _ => false
def wordV : V → Bool
  | .str z => decide (z = "before") || (decide (z = "same") || decide (z = "after"))
  | _ => false
def inV3 (v : V) (lo hi : Int) : Bool := match v with
  | .int i => decide (lo ≤ i) && decide (i ≤ hi)
  | _ => false
def spInt (K : PySem.W.Frag) : Sp := fun vs H Q _ => ∃ v lo hi, vs = [v, .int lo, .int hi] ∧ AnyV K H v ∧ Q (.bl (inV3 v lo hi)) H
theorem sc_is_integer : FnScope ["value", "low", "high"] ["value", "low", "high"] (defScope s_is_integer) := ⟨rfl, rfl, rfl, by decide +kernel, rfl, by decide +kernel, by decide +kernel⟩
theorem ok_is_integer (T : Tx K mg base) : Ok P w K mg base 2 (d_is_integer.loc K) ["value", "low", "high"] (spInt K) := by
  refine mk_ok (k := 1) T.f_is_integer sc_is_integer (fun _ _ _ _ _ _ us hl => match us, hl with | [_, _, _], _ => rfl) (fun vs H Q E h => ?_) (fun cdv A outer s H vs Q E hr h => ?_)
  · obtain ⟨v, lo, hi, rfl, _⟩ := h
    rfl
  · obtain ⟨v, lo, hi, rfl, hv, k⟩ := h
    refine ⟨_, (pss_one (ps_ret (pe_and (ok_call (ok_is_whole T) (hr.mono (by decide)) rfl T.g_is_whole passL (pa_cons (pv 0) pa_nil)) (pe_one (pe_chain op_le op_le (pv 1) (pv 0) (pv 2)))))), ?_⟩
    refine ⟨_, rfl, v, rfl, hv, _, rfl, ?_⟩
    cases hv with
    | int i =>
      refine ⟨_, rfl, _, rfl, _, _, rfl, rfl, _, rfl, ?_⟩
      refine ite2 (fun h1 => ?_) (fun h1 => ?_)
      · refine ⟨_, rfl, _, _, rfl, rfl, ?_⟩
        have e : inV3 (.int i) lo hi = decide (i ≤ hi) := by simp only [inV3, h1, Bool.true_and]
        rw [e] at k
        exact k
      · have e : inV3 (.int i) lo hi = false := by simp only [inV3]; simp only [Bool.not_eq_true] at h1; rw [h1, Bool.false_and]
        rw [e] at k
        exact k
    | _ => exact k
theorem flat2 : ([V.str "beats", V.str "seconds"] : List V).all flatV = true := rfl
theorem flat3 : ([V.str "before", V.str "same", V.str "after"] : List V).all flatV = true := rfl
theorem in2 (z : Str) : inV (.str z) [V.str "beats", V.str "seconds"] = unitV (.str z) := by
  unfold inV unitV
  simp only [List.any_cons, List.any_nil, Bool.or_false, eqV]
  congr 1 <;> (rw [Bool.eq_iff_iff]; simp only [beq_iff_eq, decide_eq_true_eq]; exact eq_comm)
theorem in3 (z : Str) : inV (.str z) [V.str "before", V.str "same", V.str "after"] = wordV (.str z) := by
  unfold inV wordV
  simp only [List.any_cons, List.any_nil, Bool.or_false, eqV]
  congr 1
  · rw [Bool.eq_iff_iff]; simp only [beq_iff_eq, decide_eq_true_eq]; exact eq_comm
  · congr 1 <;> (rw [Bool.eq_iff_iff]; simp only [beq_iff_eq, decide_eq_true_eq]; exact eq_comm)
def spUnit (K : PySem.W.Frag) : Sp := fun vs H Q _ => ∃ v, vs = [v] ∧ AnyV K H v ∧ Q (.bl (unitV v)) H
theorem sc_is_unit : FnScope ["value"] ["value"] (defScope s_is_unit) := ⟨rfl, rfl, rfl, by decide +kernel, rfl, by decide +kernel, by decide +kernel⟩
theorem ok_is_unit (T : Tx K mg base) : Ok P w K mg base 1 (d_is_unit.loc K) ["value"] (spUnit K) := by
  refine mk_ok (k := 0) T.f_is_unit sc_is_unit (fun _ _ _ _ _ _ us hl => match us, hl with | [_], _ => rfl) (fun vs H Q E h => ?_) (fun cdv A outer s H vs Q E hr h => ?_)
  · obtain ⟨v, rfl, _⟩ := h
    rfl
  · obtain ⟨v, rfl, hv, k⟩ := h
    refine ⟨_, (pss_one (ps_ret (pe_and (pe_callB call_isi (by rfl) T.b_isinstance (by decide +kernel) (pa_cons (pv 0) (pa_cons (pe_bltn (v := .ty "str") rfl T.b_str (by decide +kernel) rfl) pa_nil))) (pe_one (pe_cmpR op_in_seq (pv 0) (pe_gr T.g_UNITS) (by rfl)))))), ?_⟩
    obtain ⟨t1, y1, q1⟩ := isi_str T hv
    refine ⟨_, rfl, _, _, _, _, _, rfl, .ty _, y1, q1, _, rfl, ?_⟩
    cases hv with
    | str z =>
      refine ⟨_, rfl, _, _, rfl, .inl (T.l_UNITS H), rfl, flat2, ?_⟩
      show Q (.bl (inV (.str z) [V.str "beats", V.str "seconds"])) H
      rw [in2]
      exact k
    | _ => exact k
def spWord (K : PySem.W.Frag) : Sp := fun vs H Q _ => ∃ v, vs = [v] ∧ AnyV K H v ∧ Q (.bl (wordV v)) H
theorem sc_is_word : FnScope ["value"] ["value"] (defScope s_is_word) := ⟨rfl, rfl, rfl, by decide +kernel, rfl, by decide +kernel, by decide +kernel⟩
theorem ok_is_word (T : Tx K mg base) : Ok P w K mg base 1 (d_is_word.loc K) ["value"] (spWord K) := by
  refine mk_ok (k := 0) T.f_is_word sc_is_word (fun _ _ _ _ _ _ us hl => match us, hl with | [_], _ => rfl) (fun vs H Q E h => ?_) (fun cdv A outer s H vs Q E hr h => ?_)
  · obtain ⟨v, rfl, _⟩ := h
    rfl
  · obtain ⟨v, rfl, hv, k⟩ := h
    refine ⟨_, (pss_one (ps_ret (pe_and (pe_callB call_isi (by rfl) T.b_isinstance (by decide +kernel) (pa_cons (pv 0) (pa_cons (pe_bltn (v := .ty "str") rfl T.b_str (by decide +kernel) rfl) pa_nil))) (pe_one (pe_cmpR op_in_seq (pv 0) (pe_gr T.g_WORDS) (by rfl)))))), ?_⟩
    obtain ⟨t1, y1, q1⟩ := isi_str T hv
    refine ⟨_, rfl, _, _, _, _, _, rfl, .ty _, y1, q1, _, rfl, ?_⟩
    cases hv with
    | str z =>
      refine ⟨_, rfl, _, _, rfl, .inl (T.l_WORDS H), rfl, flat3, ?_⟩
      show Q (.bl (inV (.str z) [V.str "before", V.str "same", V.str "after"])) H
      rw [in3]
      exact k
    | _ => exact k
/-- what is raised: a new exception of the class x with the value v -/
def Rz (K : PySem.W.Frag) (x : Str) (v : V) (H : Hp) (E : XK) : Prop := ∀ H' d, Same H H' → H d = none → H' d = some (.xd [("value", v)]) → E (.ref (He.ga K x)) (some d) H'
theorem rz_of {K : PySem.W.Frag} {x : Str} {v : V} {H : Hp} {E : XK} (h : Rz K x v H E) : ∀ d, H d = none → E (.ref (He.ga K x)) (some d) (upd H d (.xd [("value", v)])) := fun d hd =>
  h _ d (fun b o e => by rw [upd_ne (ne_of_none e hd)]; exact e) hd upd_same
def spNeedUnit (K : PySem.W.Frag) : Sp := fun vs H Q E => ∃ v, vs = [v] ∧ AnyV K H v ∧ (unitV v = true → Q .non H) ∧ (unitV v = false → Rz K "InvalidUnit" v H E)
theorem sc_need_unit : FnScope ["unit"] ["unit"] (defScope s_need_unit) := ⟨rfl, rfl, rfl, by decide +kernel, rfl, by decide +kernel, by decide +kernel⟩
theorem ok_need_unit (T : Tx K mg base) : Ok P w K mg base 3 (d_need_unit.loc K) ["unit"] (spNeedUnit K) := by
  refine mk_ok (k := 2) T.f_need_unit sc_need_unit (fun _ _ _ _ _ _ us hl => match us, hl with | [_], _ => rfl) (fun vs H Q E h => ?_) (fun cdv A outer s H vs Q E hr h => ?_)
  · obtain ⟨v, rfl, _⟩ := h
    rfl
  · obtain ⟨v, rfl, hv, k1, k2⟩ := h
    refine ⟨_, (pss_one (ps_if (pt_not (pt_val (ok_call (ok_is_unit T) (hr.mono (by decide)) rfl T.g_is_unit passL (pa_cons (pv 0) pa_nil)))) (pss_one (ps_rs rfl (mx_InvalidUnit T (hr.mono (by decide))) (takes_of rfl rfl rfl rfl) rfl (pv 0))) pss_nil)), ?_⟩
    refine ⟨_, rfl, v, rfl, hv, _, rfl, ?_⟩
    cases e : unitV v with
    | true => exact iteF (k1 e)
    | false => exact iteT ⟨_, rfl, mk_at T.xc_InvalidUnit.oex T.xc_InvalidUnit.no (rz_of (k2 e))⟩
def spNeedWord (K : PySem.W.Frag) : Sp := fun vs H Q E => ∃ v, vs = [v] ∧ AnyV K H v ∧ (wordV v = true → Q .non H) ∧ (wordV v = false → Rz K "InvalidWord" v H E)
theorem sc_need_word : FnScope ["word"] ["word"] (defScope s_need_word) := ⟨rfl, rfl, rfl, by decide +kernel, rfl, by decide +kernel, by decide +kernel⟩
theorem ok_need_word (T : Tx K mg base) : Ok P w K mg base 3 (d_need_word.loc K) ["word"] (spNeedWord K) := by
  refine mk_ok (k := 2) T.f_need_word sc_need_word (fun _ _ _ _ _ _ us hl => match us, hl with | [_], _ => rfl) (fun vs H Q E h => ?_) (fun cdv A outer s H vs Q E hr h => ?_)
  · obtain ⟨v, rfl, _⟩ := h
    rfl
  · obtain ⟨v, rfl, hv, k1, k2⟩ := h
    refine ⟨_, (pss_one (ps_if (pt_not (pt_val (ok_call (ok_is_word T) (hr.mono (by decide)) rfl T.g_is_word passL (pa_cons (pv 0) pa_nil)))) (pss_one (ps_rs rfl (mx_InvalidWord T (hr.mono (by decide))) (takes_of rfl rfl rfl rfl) rfl (pv 0))) pss_nil)), ?_⟩
    refine ⟨_, rfl, v, rfl, hv, _, rfl, ?_⟩
    cases e : wordV v with
    | true => exact iteF (k1 e)
    | false => exact iteT ⟨_, rfl, mk_at T.xc_InvalidWord.oex T.xc_InvalidWord.no (rz_of (k2 e))⟩
end
end K03

set_option maxHeartbeats 4000000
namespace K03
open PySem PySem.Spec PyProof.Rows L2 AT
section
variable {P : Program} {w : World} {K : PySem.W.Frag} {mg : Str → Option Value} {base : Heap}
theorem str_len (z : Str) : z.length = z.cps.size := rfl
theorem at0 {z : Str} (h : 0 < (z.length : Int)) : atI z.cps.toList 0 = some (z.cps.getD 0 0) := by
  have h1 : 0 < z.cps.size := by rw [str_len] at h; omega
  have : z.cps.toList[0]? = some (z.cps.getD 0 0) := by
    rw [Array.getElem?_toList, Array.getElem?_eq_getElem h1]
    simp [Array.getD, h1]
  exact atI_nat this
def spName (K : PySem.W.Frag) : Sp := fun vs H Q _ => ∃ v, vs = [v] ∧ AnyV K H v ∧ (∀ z, v = .str z → z.length < sizeLine) ∧ ∀ H', Same H H' → Q (.bl (nameV v)) H'
theorem sc_is_name : FnScope ["value", "letter"] ["value"] (defScope s_is_name) := ⟨rfl, rfl, rfl, by decide +kernel, rfl, by decide +kernel, by decide +kernel⟩
theorem ok_is_name (T : Tx K mg base) : Ok P w K mg base 1 (d_is_name.loc K) ["value"] (spName K) := by
  refine mk_ok (k := 0) T.f_is_name sc_is_name (fun _ _ _ _ _ _ us hl => match us, hl with | [_], _ => rfl) (fun vs H Q E h => ?_) (fun cdv A outer s H vs Q E hr h => ?_)
  · obtain ⟨v, rfl, _⟩ := h
    rfl
  · obtain ⟨v, rfl, hv, hz, k⟩ := h
    refine ⟨_, (pss_cons (ps_if (PW.pt (pw_or (pt_not (pt_val (pe_callB call_isi (by rfl) T.b_isinstance (by decide +kernel) (pa_cons (pv 0) (pa_cons (pe_bltn (v := .ty "str") rfl T.b_str (by decide +kernel) rfl) pa_nil))))) (pw_or (pt_not (pt_chain op_lt op_le pe_int (pe_callB call_len_str (by rfl) T.b_len (by decide +kernel) (pa_cons (pv 0) pa_nil)) (pe_k T.c_LONGEST_NAME))) (pw_or1 (pt_cmpR op_notInS (pe_ix ix_str (pv 0) pe_int (fun _ _ => rfl)) (pe_k T.c_LETTERS) (by rfl)))))) (pss_one (ps_ret pe_bl)) pss_nil)
      (pss_one (ps_ret (pe_callB (cr_all rfl) (by rfl) T.b_all (by decide +kernel) (pa_cons (pe_lc (own := [("letter", 1)]) (g := (gName 1)) (tt := tYes) (by rfl) sc_is_name.nd (pi_str (pv 0)) (blkOk_by (own := [("letter", 1)]) (N := ["value", "letter"]) (sc := defScope s_is_name) (by decide +kernel)) (fun _ _ _ _ _ => (pg_name (i := 1) sc_is_name.nd rfl (Or.inl rfl))) (fun _ _ _ _ _ => pts_nil) (fun _ _ _ _ _ => (pe_or (pe_cmpR op_inS (pv 1) (pe_k T.c_LETTERS) (by rfl)) (pe_one (pe_cmpR op_inS (pv 1) (pe_k T.c_DIGITS) (by rfl)))))) pa_nil))))), ?_⟩
    obtain ⟨t1, y1, q1⟩ := isi_str T hv
    refine ⟨_, rfl, _, _, _, _, _, rfl, .ty _, y1, q1, _, rfl, ?_⟩
    cases hv with
    | str z =>
      have hz1 := hz z rfl
      refine iteF ⟨_, rfl, z, rfl, Nat.le_of_lt hz1, _, _, rfl, rfl, _, rfl, ?_⟩
      refine ite2 (fun h1 => ?_) (fun h1 => ?_)
      · have h1' : 0 < (z.length : Int) := of_decide_eq_true h1
        refine ⟨_, _, rfl, rfl, _, rfl, ?_⟩
        by_cases h2 : (z.length : Int) ≤ 8
        · rw [decide_eq_true h2]
          refine iteF ⟨_, rfl, z, 0, _, rfl, rfl, Nat.le_of_lt hz1, at0 h1', _, _, rfl, rfl, _, rfl, ?_⟩
          by_cases h3 : inS (z.cps.getD 0 0) letters = true
          · rw [show decide (z.cps.getD 0 0 ∈ (Str.cps "abcdefghijklmnopqrstuvwxyz").toList) = true from h3]
            refine iteF ⟨_, rfl, z, rfl, fun D hD => ?_⟩
            refine lc_text (fun _ => true) (fun c => .bl (inS c letters || inS c digits)) hz1 hD (fun x => rfl) (fun c H' R _ _ k2 => k2 H' (Same.refl _)) (fun c H' R _ _ k2 => ?_) (fun H' sm hl => ?_)
            · refine ⟨_, rfl, _, _, rfl, rfl, _, rfl, ?_⟩
              cases e : inS c letters with
              | true =>
                rw [show decide (c ∈ (Str.cps "abcdefghijklmnopqrstuvwxyz").toList) = true from e]
                have := k2 H' (Same.refl _)
                rw [e, Bool.true_or] at this
                exact iteT this
              | false =>
                rw [show decide (c ∈ (Str.cps "abcdefghijklmnopqrstuvwxyz").toList) = false from e]
                have := k2 H' (Same.refl _)
                rw [e, Bool.false_or] at this
                exact iteF ⟨_, rfl, _, _, rfl, rfl, this⟩
            · have e2 : (z.cps.toList.filter fun _ => true) = z.cps.toList := List.filter_eq_self.mpr fun _ _ => rfl
              rw [e2] at hl
              refine ⟨D, z.cps.toList.map fun c => inS c letters || inS c digits, rfl, SqL.of ?_, ?_⟩
              · rw [hl, List.map_map]
                rfl
              · have e3 : nameV (.str z) = (List.map (fun c => inS c letters || inS c digits) z.cps.toList).all id := by
                  show isNameS z = _
                  unfold isNameS
                  rw [decide_eq_true h1', decide_eq_true h2, h3, Bool.true_and, Bool.true_and, Bool.true_and, List.all_map]
                  rfl
                have := k H' sm
                rw [e3] at this
                exact this
          · have h3' : inS (z.cps.getD 0 0) letters = false := by simpa using h3
            rw [show decide (z.cps.getD 0 0 ∈ (Str.cps "abcdefghijklmnopqrstuvwxyz").toList) = false from h3']
            refine iteT ?_
            have e3 : nameV (.str z) = false := by
              show isNameS z = _
              unfold isNameS
              rw [h3', Bool.false_and, Bool.and_false, Bool.and_false]
            have := k H (Same.refl _)
            rw [e3] at this
            exact this
        · rw [decide_eq_false h2]
          refine iteT (iteT ?_)
          have e3 : nameV (.str z) = false := by
            show isNameS z = _
            unfold isNameS
            rw [decide_eq_false h2, Bool.false_and, Bool.and_false]
          have := k H (Same.refl _)
          rw [e3] at this
          exact this
      · refine ⟨_, rfl, ?_⟩
        refine iteT (iteT ?_)
        have h1' : decide (0 < (z.length : Int)) = false := by simpa using h1
        have e3 : nameV (.str z) = false := by
          show isNameS z = _
          unfold isNameS
          rw [h1', Bool.false_and]
        have := k H (Same.refl _)
        rw [e3] at this
        exact this
    | _ => exact iteT (iteT (k H (Same.refl _)))
end
end K03

set_option maxHeartbeats 4000000
namespace K03
open PySem PySem.Spec PyProof.Rows L2 AT
section
variable {P : Program} {w : World} {K : PySem.W.Frag} {mg : Str → Option Value} {base : Heap}
def otherU (z : Str) : Str := if z = "beats" then "seconds" else "beats"
def spOther (K : PySem.W.Frag) : Sp := fun vs H Q E => ∃ v, vs = [v] ∧ AnyV K H v ∧ (∀ z, v = .str z → unitV v = true → Q (.str (otherU z)) H) ∧ (unitV v = false → Rz K "InvalidUnit" v H E)
theorem sc_other_unit : FnScope ["unit"] ["unit"] (defScope s_other_unit) := ⟨rfl, rfl, rfl, by decide +kernel, rfl, by decide +kernel, by decide +kernel⟩
theorem ok_other_unit (T : Tx K mg base) : Ok P w K mg base 4 (d_other_unit.loc K) ["unit"] (spOther K) := by
  refine mk_ok (k := 3) T.f_other_unit sc_other_unit (fun _ _ _ _ _ _ us hl => match us, hl with | [_], _ => rfl) (fun vs H Q E h => ?_) (fun cdv A outer s H vs Q E hr h => ?_)
  · obtain ⟨v, rfl, _⟩ := h
    rfl
  · obtain ⟨v, rfl, hv, k1, k2⟩ := h
    refine ⟨_, (pss_cons (ps_expr (ok_call (ok_need_unit T) (hr.mono (by decide)) rfl T.g_need_unit (passE rfl rfl rfl rfl) (pa_cons (pv 0) pa_nil)))
      (pss_one (ps_ret (pe_ifExp (pt_cmpR op_eq (pv 0) (pe_k T.c_BEATS) (nomark _)) (pe_k T.c_SECONDS) (pe_k T.c_BEATS))))), ?_⟩
    refine ⟨_, rfl, v, rfl, hv, fun e => ?_, k2⟩
    cases hv with
    | str z =>
      have k3 := k1 z rfl e
      refine ⟨_, rfl, rfl, _, rfl, ?_⟩
      unfold otherU at k3
      by_cases hz : z = "beats"
      · rw [if_pos hz] at k3
        subst hz
        rw [decide_eq_true rfl]
        exact iteT k3
      · rw [if_neg hz] at k3
        rw [decide_eq_false (fun q => hz (V.str.inj q))]
        exact iteF k3
    | _ => cases e
def turnedW (z : Str) : Str := if z = "before" then "after" else if z = "after" then "before" else "same"
def spTurned (K : PySem.W.Frag) : Sp := fun vs H Q E => ∃ v, vs = [v] ∧ AnyV K H v ∧ (∀ z H', v = .str z → wordV v = true → Same H H' → Q (.str (turnedW z)) H') ∧ (wordV v = false → Rz K "InvalidWord" v H E)
theorem sc_turned : FnScope ["word"] ["word"] (defScope s_turned) := ⟨rfl, rfl, rfl, by decide +kernel, rfl, by decide +kernel, by decide +kernel⟩
theorem ok_turned (T : Tx K mg base) : Ok P w K mg base 4 (d_turned.loc K) ["word"] (spTurned K) := by
  refine mk_ok (k := 3) T.f_turned sc_turned (fun _ _ _ _ _ _ us hl => match us, hl with | [_], _ => rfl) (fun vs H Q E h => ?_) (fun cdv A outer s H vs Q E hr h => ?_)
  · obtain ⟨v, rfl, _⟩ := h
    rfl
  · obtain ⟨v, rfl, hv, k1, k2⟩ := h
    refine ⟨_, (pss_cons (ps_expr (ok_call (ok_need_word T) (hr.mono (by decide)) rfl T.g_need_word (passE rfl rfl rfl rfl) (pa_cons (pv 0) pa_nil)))
      (pss_one (ps_ret (pe_dget2 (hu_of hr) (pe_disp (pps_cons (pe_k T.c_BEFORE) (pe_k T.c_AFTER) (pps_cons (pe_k T.c_AFTER) (pe_k T.c_BEFORE) pps_nil)) (by rfl) (by rfl) (fun z => by cases z) (by decide)) (pv 0) (pe_k T.c_SAME) ⟨by rfl, by rfl, by rfl, by rfl⟩)))), ?_⟩
    refine ⟨_, rfl, v, rfl, hv, fun e => ?_, k2⟩
    cases hv with
    | str z =>
      refine fun p np => ⟨upd_same, [(Sum.inr "before", .str "after"), (Sum.inr "after", .str "before")], rfl, (by decide), ?_⟩
      have em : mergeK [] [(Sum.inr "before", V.str "after"), (Sum.inr "after", V.str "before")] = [((Sum.inr "before" : Key), V.str "after"), (Sum.inr "after", V.str "before")] := by decide +kernel
      rw [em]
      refine ⟨p, rfl, .inl ⟨_, .of upd_same⟩, _, rfl, _, DGet.k (k := Sum.inr z) upd_same, ?_⟩
      have ev : (valV [((Sum.inr "before" : Key), V.str "after"), (Sum.inr "after", V.str "before")] (Sum.inr z)).getD (.str "same") = .str (turnedW z) := by
        unfold valV turnedW
        by_cases h1 : z = "before"
        · subst h1
          rfl
        · rw [if_neg h1, List.find?_cons_of_neg (by simpa using fun q => h1 q.symm)]
          by_cases h2 : z = "after"
          · subst h2
            rfl
          · rw [if_neg h2, List.find?_cons_of_neg (by simpa using fun q => h2 q.symm)]
            rfl
      rw [ev]
      exact k1 z _ rfl e (by rw [upd_upd]; exact AT.Same.up np)
    | _ => cases e
/-! ### common_factor -/
def spGcd : Sp := fun vs H Q _ => ∃ a b : Int, vs = [.int a, .int b] ∧ 0 ≤ a ∧ 0 ≤ b ∧ Q (.int (Int.gcd a b : Nat)) H
theorem gcd_turn {a b : Int} (ha : 0 ≤ a) (hb : 0 < b) : Int.gcd b (a % b) = Int.gcd a b := by
  obtain ⟨n, rfl⟩ := Int.eq_ofNat_of_zero_le ha
  obtain ⟨m, rfl⟩ := Int.eq_ofNat_of_zero_le (Int.le_of_lt hb)
  have e : (n : Int) % (m : Int) = ((n % m : Nat) : Int) := by simp
  show Nat.gcd (Int.natAbs (m : Int)) (Int.natAbs ((n : Int) % (m : Int))) = Nat.gcd (Int.natAbs (n : Int)) (Int.natAbs (m : Int))
  rw [e, Int.natAbs_natCast, Int.natAbs_natCast, Int.natAbs_natCast, Nat.gcd_comm m, ← Nat.gcd_rec, Nat.gcd_comm]
theorem sc_common_factor : FnScope ["one", "other"] ["one", "other"] (defScope s_common_factor) := ⟨rfl, rfl, rfl, by decide +kernel, rfl, by decide +kernel, by decide +kernel⟩
theorem ok_common_factor (T : Tx K mg base) : Ok P w K mg base 1 (d_common_factor.loc K) ["one", "other"] spGcd := by
  refine mk_ok (k := 0) T.f_common_factor sc_common_factor (fun _ _ _ _ _ _ us hl => match us, hl with | [_, _], _ => rfl) (fun vs H Q E h => ?_) (fun cdv A outer s H vs Q E hr h => ?_)
  · obtain ⟨a, b, rfl, _⟩ := h
    rfl
  · obtain ⟨a, b, rfl, ha, hb, k⟩ := h
    refine ⟨_, (pss_cons (ps_while (passes_of rfl) (pt_cmpR op_gt (pv 1) pe_int (nomark _)) (pss_one (ps_par (by rfl) sc_common_factor.nd (i := 0) (j := 1) rfl rfl (by decide) rfl rfl (pa_cons (pv 1) (pa_cons (pe_op op_mod (pv 0) (pv 1)) pa_nil)) (by rfl))))
      (pss_one (ps_ret (pv 0)))), ?_⟩
    refine ⟨fun m σ H' => ∃ a' b' : Int, σ = [some (.int a'), some (.int b')] ∧ H' = H ∧ 0 ≤ a' ∧ 0 ≤ b' ∧ Int.gcd a' b' = Int.gcd a b ∧ m = b'.toNat, ⟨_, a, b, rfl, rfl, ha, hb, rfl, rfl⟩, ?_⟩
    rintro m σ H' ⟨a', b', rfl, rfl, ha', hb', hg, rfl⟩
    refine ⟨_, rfl, _, _, rfl, rfl, _, rfl, ?_⟩
    refine ite2 (fun h1 => ?_) (fun h1 => ?_)
    · have h1' : 0 < b' := of_decide_eq_true h1
      refine ⟨fun σ2 H2 => ∃ a2 b2 : Int, σ2 = [some (.int a2), some (.int b2)] ∧ H2 = H' ∧ 0 ≤ a2 ∧ 0 ≤ b2 ∧ Int.gcd a2 b2 = Int.gcd a b ∧ b2 < b', ?_, ?_⟩
      · rintro σ2 H2 ⟨a2, b2, rfl, rfl, h2, h3, h4, h5⟩
        exact ⟨b2.toNat, by omega, a2, b2, rfl, rfl, h2, h3, h4, rfl⟩
      · refine ⟨_, rfl, _, rfl, _, rfl, _, _, rfl, rfl, h1', _, _, rfl, ?_⟩
        exact ⟨b', a' % b', rfl, rfl, hb', Int.emod_nonneg _ (by omega), by rw [gcd_turn ha' h1', hg], Int.emod_lt_of_pos _ h1'⟩
    · have h0 : b' = 0 := by
        have := of_decide_eq_false (by simpa using h1 : decide (0 < b') = false)
        omega
      subst h0
      refine ⟨_, rfl, ?_⟩
      have e : (Int.gcd a b : Int) = a' := by rw [← hg, Int.gcd_zero_right]; omega
      rw [e] at k
      exact k
end
end K03

set_option maxHeartbeats 4000000
namespace K03
open PySem PySem.Spec PyProof.Rows L2 AT
section
variable {P : Program} {w : World} {K : PySem.W.Frag} {mg : Str → Option Value} {base : Heap}
/-! ### amounts -/
def fac (t b : Int) : Int := if b < 0 then -(Int.gcd t b : Nat) else (Int.gcd t b : Nat)
def lowT (t b : Int) : Int := t.fdiv (fac t b)
def lowB (t b : Int) : Int := b.fdiv (fac t b)
theorem IsAmt.up {H H' : Hp} {p : Addr} {n d : Int} (h : IsAmt K H p n d) (s : Same H H') : IsAmt K H' p n d := h.imp fun _ e => s _ _ e
theorem gcd_pos {t b : Int} (h : b ≠ 0) : 0 < Int.gcd t b := Int.gcd_pos_of_ne_zero_right t h
theorem gcd_le {t b : Int} (h : b ≠ 0) : Int.gcd t b ≤ b.natAbs := Nat.le_of_dvd (Int.natAbs_pos.mpr h) (Int.gcd_dvd_natAbs_right t b)
theorem abs_gcd (t b : Int) : Int.gcd (if t < 0 then -t else t) (if b < 0 then -b else b) = Int.gcd t b := by
  have e : ∀ x : Int, (if x < 0 then -x else x).natAbs = x.natAbs := fun x => by split <;> simp
  show Nat.gcd _ _ = Nat.gcd _ _
  rw [e, e]
def badB : V → Bool
  | .int d => decide (d = 0)
  | _ => true
def spAmt (K : PySem.W.Frag) : Sp := fun vs H Q E => ∃ p dx t b, vs = [.ref p, t, b] ∧ H p = some (.ins (cA K) dx []) ∧ AnyV K H t ∧ AnyV K H b ∧ (∀ d, b = .int d → d.natAbs < 2 ^ 8000) ∧
  (wholeV t = false → Rz K "InvalidInteger" t H E) ∧ (wholeV t = true → badB b = true → Rz K "InvalidInteger" b H E) ∧
  (∀ n d, t = .int n → b = .int d → d ≠ 0 → Q .non (upd H p (.ins (cA K) dx (amtF (lowT n d) (lowB n d)))))
theorem log_lt {n k : Nat} (hk : 0 < k) (h : n < 2 ^ k) : n.log2 < k := PySem.Flt.log2_lt_of hk h
theorem sc_Amount_init_ : FnScope ["self", "top", "bottom", "factor"] ["self", "top", "bottom"] (defScope s_Amount_init_) := ⟨rfl, rfl, rfl, by decide +kernel, rfl, by decide +kernel, by decide +kernel⟩
theorem both_Amount (T : Tx K mg base) : Ok P w K mg base 3 (He.ma K (He.ga K "Amount") "__init__") ["self", "top", "bottom"] (spAmt K) ∧ OkD P w K mg base 3 (He.ma K (He.ga K "Amount") "__init__") ["self", "top", "bottom"] [.int 1] (spAmt K) := by
  refine mk_okD1 (k := 2) (n := 2) T.f_Amount_init_ sc_Amount_init_ rfl (fun _ _ _ _ _ _ _ us u hl => match us, hl with | [_, _], _ => ⟨_, rfl, rfl⟩) (fun _ _ _ _ _ _ _ us u hl => match us, hl with | [_, _, _], _ => ⟨_, rfl, rfl⟩) (fun vs H Q E h => ?_) (fun cdv A outer s H vs Q E hr h => ?_)
  · obtain ⟨p, dx, t, b, rfl, _⟩ := h
    rfl
  · obtain ⟨p, dx, t, b, rfl, hp, ht, hb, hbd, k1, k2, k3⟩ := h
    refine ⟨_, (pss_cons (ps_if (pt_not (pt_val (ok_call (ok_is_whole T) (hr.mono (by decide)) rfl T.g_is_whole passL (pa_cons (pv 1) pa_nil)))) (pss_one (ps_rs rfl (mx_InvalidInteger T (hr.mono (by decide))) (takes_of rfl rfl rfl rfl) rfl (pv 1))) pss_nil)
      (pss_cons (ps_if (PW.pt (pw_or (pt_not (pt_val (ok_call (ok_is_whole T) (hr.mono (by decide)) rfl T.g_is_whole passL (pa_cons (pv 2) pa_nil)))) (pw_or1 (pt_cmpR op_eq (pv 2) pe_int (nomark _))))) (pss_one (ps_rs rfl (mx_InvalidInteger T (hr.mono (by decide))) (takes_of rfl rfl rfl rfl) rfl (pv 2))) pss_nil)
      (pss_cons (ps_set (i := 3) sc_Amount_init_.nd rfl (Or.inl rfl) (ok_call (ok_common_factor T) (hr.mono (by decide)) rfl T.g_common_factor passL (pa_cons (pe_callB call_abs (by rfl) T.b_abs (by decide +kernel) (pa_cons (pv 1) pa_nil)) (pa_cons (pe_callB call_abs (by rfl) T.b_abs (by decide +kernel) (pa_cons (pv 2) pa_nil)) pa_nil))))
      (pss_cons (ps_if (pt_cmpR op_lt (pv 2) pe_int (nomark _)) (pss_one (ps_set (i := 3) sc_Amount_init_.nd rfl (Or.inl rfl) (pe_un un_neg (pv 3)))) pss_nil)
      (pss_cons (ps_fld (pv 0) (pe_op op_fdivZ (pv 1) (pv 3)) rfl)
      (pss_one (ps_fld (pv 0) (pe_op op_fdivZ (pv 2) (pv 3)) rfl))))))), ?_⟩
    refine ⟨_, rfl, t, rfl, ht, _, rfl, ?_⟩
    cases e : wholeV t with
    | false => exact iteT ⟨_, rfl, mk_at T.xc_InvalidInteger.oex T.xc_InvalidInteger.no (rz_of (k1 e))⟩
    | true =>
      refine iteF ⟨_, rfl, b, rfl, hb, _, rfl, ?_⟩
      have raiseB : badB b = true → ∀ d, H d = none → E (.ref (He.ga K "InvalidInteger")) (some d) (upd H d (.xd [("value", b)])) := fun q => rz_of (k2 e q)
      cases hb with
      | int d =>
        refine iteF ⟨_, rfl, rfl, _, rfl, ?_⟩
        by_cases h0 : d = 0
        · subst h0
          rw [decide_eq_true rfl]
          exact iteT ⟨_, rfl, mk_at T.xc_InvalidInteger.oex T.xc_InvalidInteger.no (raiseB rfl)⟩
        · rw [decide_eq_false (fun q => h0 (V.int.inj q))]
          have hn : ∃ n, t = .int n := by
            cases ht with
            | int n => exact ⟨n, rfl⟩
            | _ => cases e
          obtain ⟨n, rfl⟩ := hn
          refine iteF ⟨_, rfl, n, rfl, _, rfl, d, rfl, _, _, rfl, (by split <;> omega), (by split <;> omega), ?_⟩
          rw [abs_gcd]
          have key : ∀ f : Int, f = fac n d → f ≠ 0 → f.natAbs.log2 < 9000 → ∀ σ, σ = ([some (.ref p), some (.int n), some (.int d), some (.int f)] : L2.St) →
              tSeq (sFld K (tVar 0) (tOp (rI CDivZ fun i j => .int (i.fdiv j)) (tVar 1) (tVar 3)) "own_top") (sFld K (tVar 0) (tOp (rI CDivZ fun i j => .int (i.fdiv j)) (tVar 2) (tVar 3)) "own_bottom") { nx := fun _ H' => Q .non H', rt := Q } σ H := by
            rintro f rfl hf hl σ rfl
            refine ⟨_, rfl, _, rfl, _, _, rfl, rfl, ⟨hf, hl⟩, _, rfl, p, _, dx, _, rfl, hp, T.cls_Amount, T.no_Amount_own_top, (by decide), ?_⟩
            refine ⟨_, rfl, _, rfl, _, _, rfl, rfl, ⟨hf, hl⟩, _, rfl, p, _, dx, _, rfl, upd_same, T.cls_Amount, T.no_Amount_own_bottom, (by show 1 < 1000; decide), ?_⟩
            rw [upd_upd]
            exact k3 n d rfl rfl h0
          have hg := gcd_pos (t := n) h0
          have hle := gcd_le (t := n) h0
          have hbig := hbd d rfl
          have hlog : (Int.gcd n d).log2 < 9000 := log_lt (by decide) (Nat.lt_of_le_of_lt hle (Nat.lt_trans hbig (Nat.pow_lt_pow_right (by decide) (by decide))))
          refine ⟨_, rfl, _, _, rfl, rfl, _, rfl, ?_⟩
          refine ite2 (fun h1 => ?_) (fun h1 => ?_)
          · have h1' : d < 0 := of_decide_eq_true h1
            refine ⟨_, rfl, _, rfl, ?_⟩
            exact key (-(Int.gcd n d : Nat)) (by unfold fac; rw [if_pos h1']) (by omega) (by rw [Int.natAbs_neg, Int.natAbs_natCast]; exact hlog) _ rfl
          · have h1' : ¬ d < 0 := of_decide_eq_false (by simpa using h1)
            exact key (Int.gcd n d : Nat) (by unfold fac; rw [if_neg h1']) (by omega) (by rw [Int.natAbs_natCast]; exact hlog) _ rfl
      | _ => exact iteT (iteT ⟨_, rfl, mk_at T.xc_InvalidInteger.oex T.xc_InvalidInteger.no (raiseB rfl)⟩)
theorem ok_Amount_init_ (T : Tx K mg base) : Ok P w K mg base 3 (He.ma K (He.ga K "Amount") "__init__") ["self", "top", "bottom"] (spAmt K) := (both_Amount T).1
theorem okd_Amount_init_ (T : Tx K mg base) : OkD P w K mg base 3 (He.ma K (He.ga K "Amount") "__init__") ["self", "top", "bottom"] [.int 1] (spAmt K) := (both_Amount T).2
end
end K03

set_option maxHeartbeats 4000000
namespace K03
open PySem PySem.Spec PyProof.Rows L2 AT
section
variable {P : Program} {w : World} {K : PySem.W.Frag} {mg : Str → Option Value} {base : Heap}
def spTop (K : PySem.W.Frag) : Sp := fun vs H Q _ => ∃ a n d, vs = [.ref a] ∧ IsAmt K H a n d ∧ Q (.int n) H
def spBot (K : PySem.W.Frag) : Sp := fun vs H Q _ => ∃ a n d, vs = [.ref a] ∧ IsAmt K H a n d ∧ Q (.int d) H
theorem sc_Amount_top : FnScope ["self"] ["self"] (defScope s_Amount_top) := ⟨rfl, rfl, rfl, by decide +kernel, rfl, by decide +kernel, by decide +kernel⟩
theorem ok_Amount_top (T : Tx K mg base) : Ok P w K mg base 1 (d_Amount_top.loc K) ["self"] (spTop K) := by
  refine mk_ok (k := 0) T.f_Amount_top sc_Amount_top (fun _ _ _ _ _ _ us hl => match us, hl with | [_], _ => rfl) (fun vs H Q E h => ?_) (fun cdv A outer s H vs Q E hr h => ?_)
  · obtain ⟨a, n, d, rfl, _⟩ := h
    rfl
  · obtain ⟨a, n, d, rfl, ⟨dx, ha⟩, k⟩ := h
    refine ⟨_, (pss_one (ps_ret (pe_fld (pv 0) rfl))), ?_⟩
    exact ⟨_, rfl, a, _, dx, _, _, rfl, ha, T.cls_Amount, T.no_Amount_own_top, rfl, k⟩
theorem sc_Amount_bottom : FnScope ["self"] ["self"] (defScope s_Amount_bottom) := ⟨rfl, rfl, rfl, by decide +kernel, rfl, by decide +kernel, by decide +kernel⟩
theorem ok_Amount_bottom (T : Tx K mg base) : Ok P w K mg base 1 (d_Amount_bottom.loc K) ["self"] (spBot K) := by
  refine mk_ok (k := 0) T.f_Amount_bottom sc_Amount_bottom (fun _ _ _ _ _ _ us hl => match us, hl with | [_], _ => rfl) (fun vs H Q E h => ?_) (fun cdv A outer s H vs Q E hr h => ?_)
  · obtain ⟨a, n, d, rfl, _⟩ := h
    rfl
  · obtain ⟨a, n, d, rfl, ⟨dx, ha⟩, k⟩ := h
    refine ⟨_, (pss_one (ps_ret (pe_fld (pv 0) rfl))), ?_⟩
    exact ⟨_, rfl, a, _, dx, _, _, rfl, ha, T.cls_Amount, T.no_Amount_own_bottom, rfl, k⟩
/-- Amount(n, d) of ints, d not 0: a new amount -/
theorem amt_made {H : Hp} {Q : VK} {E : XK} {n d : Int} (hd : d ≠ 0) (hb : d.natAbs < 2 ^ 8000) (k : ∀ p H', Same H H' → H p = none → IsAmt K H' p (lowT n d) (lowB n d) → Q (.ref p) H') :
    ∀ x dx, H x = none → H dx = none → dx ≠ x → spAmt K (.ref x :: [.int n, .int d]) (upd (upd H dx (.own x)) x (.ins (cA K) dx [])) (fun v H2 => v = .non ∧ Q (.ref x) H2) E := by
  intro x dx hx hdx hne
  refine ⟨x, dx, _, _, rfl, upd_same, .int n, .int d, (by rintro _ ⟨⟩; exact hb), (fun e => by cases e), (fun _ e => by simp [badB, hd] at e), ?_⟩
  rintro _ _ ⟨⟩ ⟨⟩ _
  refine ⟨rfl, k x _ ?_ hx ⟨dx, upd_same⟩⟩
  rw [upd_upd]
  exact AT.Same.new (AT.Same.up hdx) hx
/-- what an amount stands for -/
inductive Amt (K : PySem.W.Frag) (H : Hp) : V → Int → Int → Prop where
  | obj {a : Addr} {n d : Int} (h : IsAmt K H a n d) : Amt K H (.ref a) n d
  | int (i : Int) : Amt K H (.int i) i 1
theorem isi_amt (T : Tx K mg base) {H : Hp} {v : V} (h : AnyV K H v) : ∃ t b, TyX K H v t ∧ PySem.W.kitOne K t (.ref (cA K)) = some b ∧ ((b = true ∧ ∃ a n d, v = .ref a ∧ IsAmt K H a n d) ∨ (b = false ∧ ((∃ i, v = .int i) ∨ (wholeV v = false ∧ ∀ n d, ¬ Amt K H v n d)))) := by
  cases h with
  | non => exact ⟨_, _, .base .non, T.k_NoneType_Amount, .inr ⟨rfl, .inr ⟨rfl, fun _ _ q => nomatch q⟩⟩⟩
  | bl b => exact ⟨_, _, .base (.bl b), T.k_bool_Amount, .inr ⟨rfl, .inr ⟨rfl, fun _ _ q => nomatch q⟩⟩⟩
  | int i => exact ⟨_, _, .base (.int i), T.k_int_Amount, .inr ⟨rfl, .inl ⟨i, rfl⟩⟩⟩
  | str x => exact ⟨_, _, .base (.str x), T.k_str_Amount, .inr ⟨rfl, .inr ⟨rfl, fun _ _ q => nomatch q⟩⟩⟩
  | lst e => exact ⟨_, _, .base (.lst e), T.k_list_Amount, .inr ⟨rfl, .inr ⟨rfl, by rintro _ _ ⟨_, q⟩; rw [e] at q; cases q⟩⟩⟩
  | tup e => exact ⟨_, _, .base (.tup e), T.k_tuple_Amount, .inr ⟨rfl, .inr ⟨rfl, by rintro _ _ ⟨_, q⟩; rw [e] at q; cases q⟩⟩⟩
  | dct e => exact ⟨_, _, .base (.dK e), T.k_dict_Amount, .inr ⟨rfl, .inr ⟨rfl, by rintro _ _ ⟨_, q⟩; rw [e] at q; cases q⟩⟩⟩
  | amt e =>
    obtain ⟨dx, e1⟩ := id e
    exact ⟨_, _, T.ins_Amount e1, T.k_Amount_Amount, .inl ⟨rfl, _, _, _, rfl, e⟩⟩
theorem low1 (n : Int) : lowT n 1 = n ∧ lowB n 1 = 1 := by
  have e : fac n 1 = 1 := by unfold fac; simp
  unfold lowT lowB
  rw [e]
  simp
/-- v is no amount -/
def NoAmt (K : PySem.W.Frag) (H : Hp) (v : V) : Prop := wholeV v = false ∧ ∀ n d, ¬ Amt K H v n d
def spFrom (K : PySem.W.Frag) : Sp := fun vs H Q E => ∃ v, vs = [v] ∧ AnyV K H v ∧ (∀ p n d H', Amt K H v n d → Same H H' → IsAmt K H' p n d → Q (.ref p) H') ∧ (NoAmt K H v → Rz K "InvalidAmount" v H E)
theorem sc_amount_from : FnScope ["value"] ["value"] (defScope s_amount_from) := ⟨rfl, rfl, rfl, by decide +kernel, rfl, by decide +kernel, by decide +kernel⟩
theorem ok_amount_from (T : Tx K mg base) : Ok P w K mg base 5 (d_amount_from.loc K) ["value"] (spFrom K) := by
  refine mk_ok (k := 4) T.f_amount_from sc_amount_from (fun _ _ _ _ _ _ us hl => match us, hl with | [_], _ => rfl) (fun vs H Q E h => ?_) (fun cdv A outer s H vs Q E hr h => ?_)
  · obtain ⟨v, rfl, _⟩ := h
    rfl
  · obtain ⟨v, rfl, hv, k1, k2⟩ := h
    refine ⟨_, (pss_cons (ps_if (pt_val (pe_callB call_isi (by rfl) T.b_isinstance (by decide +kernel) (pa_cons (pv 0) (pa_cons (pe_gr T.g_Amount) pa_nil)))) (pss_one (ps_ret (pv 0))) pss_nil)
      (pss_cons (ps_if (pt_not (pt_val (ok_call (ok_is_whole T) (hr.mono (by decide)) rfl T.g_is_whole passL (pa_cons (pv 0) pa_nil)))) (pss_one (ps_rs rfl (mx_InvalidAmount T (hr.mono (by decide))) (takes_of rfl rfl rfl rfl) rfl (pv 0))) pss_nil)
      (pss_one (ps_ret (ok_makeD T.mkr_Amount (okd_Amount_init_ T) (hr.mono (by decide)) rfl T.g_Amount (passE rfl rfl rfl rfl) (pa_cons (pv 0) pa_nil)))))), ?_⟩
    obtain ⟨t, b, ty, kit, hb⟩ := isi_amt T hv
    refine ⟨_, rfl, _, _, _, _, _, rfl, .own _, ty, kit, _, rfl, ?_⟩
    rcases hb with ⟨rfl, a, n, d, rfl, ha⟩ | ⟨rfl, hno⟩
    · exact iteT ⟨_, rfl, k1 a n d H (.obj ha) (Same.refl _) ha⟩
    · refine iteF ⟨_, rfl, v, rfl, hv, _, rfl, ?_⟩
      rcases hno with ⟨i, rfl⟩ | hno
      · refine iteF ⟨_, rfl, amt_made (by decide) (by decide +kernel) fun p H' sm hp hA => ?_⟩
        rw [(low1 i).1, (low1 i).2] at hA
        exact k1 p i 1 H' (.int i) sm hA
      · rw [hno.1]
        exact iteT ⟨_, rfl, mk_at T.xc_InvalidAmount.oex T.xc_InvalidAmount.no (rz_of (k2 hno))⟩
def amtText (n d : Int) : Str := if d = 1 then toString n else Str.empty ++ toString n ++ "/" ++ toString d
def spText (K : PySem.W.Frag) : Sp := fun vs H Q E => ∃ v, vs = [v] ∧ AnyV K H v ∧ (∀ n d, Amt K H v n d → n.natAbs < 2 ^ 1000 ∧ d.natAbs < 2 ^ 1000) ∧
  (∀ n d H', Amt K H v n d → Same H H' → Q (.str (amtText n d)) H') ∧ (NoAmt K H v → Rz K "InvalidAmount" v H E)
theorem text_len (n : Int) (h : n.natAbs < 2 ^ 1000) : (Str.length (toString n : String)) ≤ 5000 :=
  Nat.le_trans (int_text_len_1921 (Nat.lt_trans (log_lt (by decide) h) (by decide))) (by decide)
theorem len_app (x y : Str) : (x ++ y).length = x.length + y.length := strLen_append x y
theorem sc_amount_text : FnScope ["amount", "plain"] ["amount"] (defScope s_amount_text) := ⟨rfl, rfl, rfl, by decide +kernel, rfl, by decide +kernel, by decide +kernel⟩
theorem ok_amount_text (T : Tx K mg base) : Ok P w K mg base 6 (d_amount_text.loc K) ["amount"] (spText K) := by
  refine mk_ok (k := 5) T.f_amount_text sc_amount_text (fun _ _ _ _ _ _ us hl => match us, hl with | [_], _ => rfl) (fun vs H Q E h => ?_) (fun cdv A outer s H vs Q E hr h => ?_)
  · obtain ⟨v, rfl, _⟩ := h
    rfl
  · obtain ⟨v, rfl, hv, hbd, k1, k2⟩ := h
    refine ⟨_, (pss_cons (ps_set (i := 1) sc_amount_text.nd rfl (Or.inl rfl) (ok_call (ok_amount_from T) (hr.mono (by decide)) rfl T.g_amount_from (passE rfl rfl rfl rfl) (pa_cons (pv 0) pa_nil)))
      (pss_cons (ps_if (pt_cmpR op_eq (ok_prop T.cls_Amount T.pr_Amount_bottom (ok_Amount_bottom T) (hr.mono (by decide)) (pv 1)) pe_int (nomark _)) (pss_one (ps_ret (pe_callTy call_str_int (by rfl) T.b_str (by decide +kernel) (pa_cons (ok_prop T.cls_Amount T.pr_Amount_top (ok_Amount_top T) (hr.mono (by decide)) (pv 1)) pa_nil)))) pss_nil)
      (pss_one (ps_ret (pe_joined (.cons (pe_fmt (ok_prop T.cls_Amount T.pr_Amount_top (ok_Amount_top T) (hr.mono (by decide)) (pv 1))) (.cons pe_str (.cons (pe_fmt (ok_prop T.cls_Amount T.pr_Amount_bottom (ok_Amount_bottom T) (hr.mono (by decide)) (pv 1))) .nil)))))))), ?_⟩
    refine ⟨_, rfl, v, rfl, hv, fun p n d H1 ha s1 hA => ?_, k2⟩
    obtain ⟨dx, hp⟩ := id hA
    obtain ⟨hn, hd⟩ := hbd n d ha
    have k3 := k1 n d H1 ha s1
    have l1 : n.natAbs.log2 < 1920 := Nat.lt_trans (log_lt (by decide) hn) (by decide)
    have l2 : d.natAbs.log2 < 1920 := Nat.lt_trans (log_lt (by decide) hd) (by decide)
    refine ⟨_, rfl, p, dx, _, rfl, hp, p, n, d, rfl, hA, rfl, _, rfl, ?_⟩
    unfold amtText at k3
    by_cases h1 : d = 1
    · rw [if_pos h1] at k3
      rw [decide_eq_true (congrArg V.int h1)]
      exact iteT ⟨_, rfl, p, dx, _, rfl, hp, p, n, d, rfl, hA, n, rfl, l1, k3⟩
    · rw [if_neg h1] at k3
      rw [decide_eq_false (fun q => h1 (V.int.inj q))]
      have t1 := text_len n hn
      have t2 := text_len d hd
      refine iteF ⟨_, rfl, p, dx, _, rfl, hp, p, n, d, rfl, hA, .inr ⟨n, rfl, l1, _, rfl, ?_, _, rfl, ?_, _, rfl, p, dx, _, rfl, hp, p, n, d, rfl, hA, .inr ⟨d, rfl, l2, _, rfl, ?_, k3⟩⟩⟩
      all_goals
        simp only [len_app]
        have e0 : Str.empty.length = 0 := rfl
        have e1 : Str.length "/" = 1 := rfl
        rw [sizeLine_eq]
        omega
end
end K03

set_option maxHeartbeats 4000000
namespace K03
open PySem PySem.Spec PyProof.Rows L2 AT
/-! ### texts -/
structure Good (z : Str) : Prop where
  ok : ∀ c ∈ z.cps.toList, c < 1114112
  len : z.length ≤ 600
theorem len_list (z : Str) : z.cps.toList.length = z.length := Array.length_toList
theorem good_of {z p : Str} (g : Good z) (h : ∃ i k, p.cps.toList = (z.cps.toList.drop i).take k) : Good p := by
  obtain ⟨i, k, e⟩ := h
  refine ⟨fun c hc => g.ok c (List.mem_of_mem_drop (List.mem_of_mem_take (e ▸ hc))), ?_⟩
  have h1 := len_list p
  have h2 := len_list z
  have h3 := g.len
  rw [← h1, e, List.length_take, List.length_drop]
  omega
theorem Good.cut {z : Str} (g : Good z) (lo hi : Option Int) : Good (cutS z lo hi) := good_of g ⟨_, _, rfl⟩
theorem Good.part {z y p : Str} (g : Good z) (h : p ∈ Txt.split z y) : Good p := by
  unfold Txt.split at h
  split at h
  · rw [List.mem_singleton.mp h]; exact g
  · split at h
    · rw [List.mem_singleton.mp h]; exact g
    · obtain ⟨⟨i, j⟩, _, rfl⟩ := List.mem_map.mp h
      exact good_of g ⟨i, j - i, StrLaws.strSub_toList z i j⟩
theorem split_ne (z y : Str) : Txt.split z y ≠ [] := by
  unfold Txt.split
  split
  · simp
  · split
    · simp
    · intro e
      have := length_partsBetween z (Builtin.Str.occurrences z y 0 z.length (z.length + 1)) y.length
      rw [e] at this
      simp at this
theorem Good.lt {z : Str} (g : Good z) : z.length < sizeLine := by have := g.len; rw [sizeLine_eq]; omega
theorem Good.le {z : Str} (g : Good z) : z.length ≤ sizeLine := Nat.le_of_lt g.lt
def allDig (z : Str) : Bool := z.cps.toList.all fun c => inS c digits
theorem dig_iff {c : Nat} (h : inS c digits = true) : 48 ≤ c ∧ c ≤ 57 := by
  have h1 : c ∈ digits.cps.toList := of_decide_eq_true h
  have h2 : digits.cps.toList = [48, 49, 50, 51, 52, 53, 54, 55, 56, 57] := by decide +kernel
  rw [h2] at h1
  simp only [List.mem_cons, List.not_mem_nil, or_false] at h1
  omega
def lead0 (z : Str) : Bool := decide (V.str ⟨#[z.cps.getD 0 0]⟩ = V.str "0") && decide (1 < (z.length : Int))
def numOk (z : Str) (most : Int) : Bool := (decide (0 < (z.length : Int)) && decide ((z.length : Int) ≤ most)) && (allDig z && !lead0 z)
def numN (z : Str) : Int := (NumText.digitsVal z.cps.toList : Nat)
def numV (z : Str) (most : Int) : V := if numOk z most = true then .int (numN z) else .non
theorem int_of {z : Str} {most : Int} (h : allDig z = true) (h0 : 0 < (z.length : Int)) (hl : z.length ≤ 600) : PySem.intText? z = some (numN z) := by
  refine PySem.intText_digits (fun c hc => dig_iff (List.all_eq_true.mp h c hc)) (fun e => ?_) (by omega)
  have := len_list z
  rw [e] at this
  simp at this
  omega
section
variable {P : Program} {w : World} {K : PySem.W.Frag} {mg : Str → Option Value} {base : Heap}
def spNum : Sp := fun vs H Q _ => ∃ z most, vs = [.str z, .int most] ∧ Good z ∧ ∀ H', Same H H' → Q (numV z most) H'
theorem numV_no {z : Str} {most : Int} (h : numOk z most = false) : numV z most = .non := by unfold numV; rw [h]; rfl
theorem numV_yes {z : Str} {most : Int} (h : numOk z most = true) : numV z most = .int (numN z) := by unfold numV; rw [h]; rfl
theorem sc_number_of : FnScope ["text", "most", "letter"] ["text", "most"] (defScope s_number_of) := ⟨rfl, rfl, rfl, by decide +kernel, rfl, by decide +kernel, by decide +kernel⟩
theorem ok_number_of (T : Tx K mg base) : Ok P w K mg base 1 (d_number_of.loc K) ["text", "most"] spNum := by
  refine mk_ok (k := 0) T.f_number_of sc_number_of (fun _ _ _ _ _ _ us hl => match us, hl with | [_, _], _ => rfl) (fun vs H Q E h => ?_) (fun cdv A outer s H vs Q E hr h => ?_)
  · obtain ⟨z, most, rfl, _⟩ := h
    rfl
  · obtain ⟨z, most, rfl, hz, k⟩ := h
    refine ⟨_, (pss_cons (ps_if (PW.pt (pw_or (pt_not (pt_chain op_lt op_le pe_int (pe_callB call_len_str (by rfl) T.b_len (by decide +kernel) (pa_cons (pv 0) pa_nil)) (pv 1))) (pw_or1 (pt_not (pt_val (pe_callB (cr_all rfl) (by rfl) T.b_all (by decide +kernel) (pa_cons (pe_lc (own := [("letter", 2)]) (g := (gName 2)) (tt := tYes) (by rfl) sc_number_of.nd (pi_str (pv 0)) (blkOk_by (own := [("letter", 2)]) (N := ["text", "most", "letter"]) (sc := defScope s_number_of) (by decide +kernel)) (fun _ _ _ _ _ => (pg_name (i := 2) sc_number_of.nd rfl (Or.inl rfl))) (fun _ _ _ _ _ => pts_nil) (fun _ _ _ _ _ => (pe_cmpR op_inS (pv 2) (pe_k T.c_DIGITS) (by rfl)))) pa_nil))))))) (pss_one (ps_ret pe_non)) pss_nil)
      (pss_cons (ps_if (PW.pt (pw_and (pt_cmpR op_eq (pe_ix ix_str (pv 0) pe_int (fun _ _ => rfl)) pe_str (nomark _)) (pw_and1 (pt_cmpR op_gt (pe_callB call_len_str (by rfl) T.b_len (by decide +kernel) (pa_cons (pv 0) pa_nil)) pe_int (nomark _))))) (pss_one (ps_ret pe_non)) pss_nil)
      (pss_one (ps_ret (pe_callTy call_int_str (by rfl) T.b_int (by decide +kernel) (pa_cons (pv 0) pa_nil)))))), ?_⟩
    have no : ∀ H', Same H H' → numOk z most = false → Q .non H' := fun H' sm e => by
      have := k H' sm
      rw [numV_no e] at this
      exact this
    refine ⟨_, rfl, z, rfl, hz.le, _, _, rfl, rfl, _, rfl, ?_⟩
    refine ite2 (fun h1 => ?_) (fun h1 => ?_)
    · have h1' : 0 < (z.length : Int) := of_decide_eq_true h1
      refine ⟨_, rfl, _, _, rfl, rfl, _, rfl, ?_⟩
      by_cases h2 : (z.length : Int) ≤ most
      · rw [decide_eq_true h2]
        refine iteF ⟨_, rfl, z, rfl, fun D hD => ?_⟩
        refine lc_text (fun _ => true) (fun c => .bl (inS c digits)) hz.lt hD (fun x => rfl) (fun c H' R _ _ k2 => k2 H' (Same.refl _)) (fun c H' R _ _ k2 => ⟨_, rfl, _, _, rfl, rfl, k2 H' (Same.refl _)⟩) (fun H' sm hl => ?_)
        have e2 : (z.cps.toList.filter fun _ => true) = z.cps.toList := List.filter_eq_self.mpr fun _ _ => rfl
        rw [e2] at hl
        refine ⟨D, z.cps.toList.map fun c => inS c digits, rfl, SqL.of (by rw [hl, List.map_map]; rfl), _, rfl, ?_⟩
        have e3 : (List.map (fun c => inS c digits) z.cps.toList).all id = allDig z := by rw [List.all_map]; rfl
        rw [e3]
        cases e4 : allDig z with
        | false => exact iteT (no H' sm (by unfold numOk; rw [e4, Bool.false_and, Bool.and_false]))
        | true =>
          refine iteF ⟨_, rfl, z, 0, _, rfl, rfl, hz.le, at0 h1', rfl, _, rfl, ?_⟩
          have fin : lead0 z = false → numV z most = .int (numN z) := fun q => numV_yes (by unfold numOk; rw [decide_eq_true h1', decide_eq_true h2, e4, q]; rfl)
          have fin0 : lead0 z = true → numOk z most = false := fun q => by unfold numOk; rw [q, Bool.not_true, Bool.and_false, Bool.and_false]
          have last : lead0 z = false → tRet (tCB (fun xs H Q => ∃ a n, xs = [.str a] ∧ PySem.intText? a = some n ∧ a.length ≤ 640 ∧ Q (.int n) H) (tCons (tVar 0) tNil)) { nx := fun _ H' => Q .non H', rt := Q } (start ["text", "most", "letter"] [.str z, .int most]) H' := fun q => by
            refine ⟨_, rfl, z, numN z, rfl, int_of (most := most) e4 h1' hz.len, Nat.le_trans hz.len (by decide), ?_⟩
            have := k H' sm
            rw [fin q] at this
            exact this
          cases e5 : decide (V.str ⟨#[z.cps.getD 0 0]⟩ = V.str "0") with
          | false => exact iteF (iteF (last (by unfold lead0; rw [e5]; rfl)))
          | true =>
            refine iteT ⟨_, rfl, z, rfl, hz.le, _, _, rfl, rfl, _, rfl, ?_⟩
            cases e6 : decide (1 < (z.length : Int)) with
            | true => exact iteT (no H' sm (fin0 (by unfold lead0; rw [e5, e6]; rfl)))
            | false => exact iteF (last (by unfold lead0; rw [e5, e6]; rfl))
      · rw [decide_eq_false h2]
        exact iteT (iteT (no H (Same.refl _) (by unfold numOk; rw [decide_eq_false h2, Bool.and_false, Bool.false_and])))
    · refine ⟨_, rfl, iteT (iteT (no H (Same.refl _) ?_))⟩
      unfold numOk
      rw [show decide (0 < (z.length : Int)) = false by simpa using h1, Bool.false_and, Bool.false_and]
end
end K03

set_option maxHeartbeats 4000000
namespace K03
open PySem PySem.Spec PyProof.Rows L2 AT
section
variable {P : Program} {w : World} {K : PySem.W.Frag} {mg : Str → Option Value} {base : Heap}
/-- a list of single signs, unlike [] -/
theorem dp_signs {H : Hp} : ∀ (l : List Nat), DpAll K H (l.map fun c => V.str ⟨#[c]⟩) (l.map fun c => PyData.str ⟨#[c]⟩)
  | [] => .nil
  | c :: l => .cons (.str _) (dp_signs l)
theorem lay_signs : ∀ (l : List Nat), (∀ c ∈ l, c < 1114112) → PyData.canLayAll0 (l.map fun c => PyData.str ⟨#[c]⟩) = true
  | [], _ => rfl
  | c :: l, h => by
    have h1 := h c List.mem_cons_self
    show (PyData.strOk ⟨#[c]⟩ && PyData.canLayAll0 (l.map fun c => PyData.str ⟨#[c]⟩)) = true
    rw [lay_signs l fun d hd => h d (List.mem_cons_of_mem _ hd), Bool.and_true]
    simp [PyData.strOk, h1]
theorem depth_signs : ∀ (l : List Nat), PyData.depthAll (l.map fun c => PyData.str ⟨#[c]⟩) = 0
  | [] => rfl
  | c :: l => by
    show max (PyData.depth (PyData.str ⟨#[c]⟩)) (PyData.depthAll (l.map fun c => PyData.str ⟨#[c]⟩)) = 0
    rw [depth_signs l]
    rfl
theorem ne_nil {H : Hp} {D p : Addr} {l : List Nat} {Q : VK} (hc : ∀ c ∈ l, c < 1114112) (hD : H D = some (.lst (l.map fun c => V.str ⟨#[c]⟩))) (hp : H p = some (.lst [])) (q : Q (.bl (!l.isEmpty)) H) : rNeD K (.ref D) (.ref p) H Q := by
  refine ⟨_, _, .lst (SqL.of hD) (dp_signs l), .lst (SqL.of hp) .nil, ?_, by decide, ?_⟩
  · unfold SeqAt.shaped
    show (PyData.canLayAll0 (l.map fun c => PyData.str ⟨#[c]⟩) && decide (PyData.depthAll (l.map fun c => PyData.str ⟨#[c]⟩) + 1 ≤ 64)) = true
    rw [lay_signs l hc, depth_signs]
    rfl
  · cases l with
    | nil => exact q
    | cons c l => exact q
theorem all_empty (z : Str) : (z.cps.toList.filter fun c => !inS c digits).isEmpty = allDig z := by
  unfold allDig
  induction z.cps.toList with
  | nil => rfl
  | cons c l ih =>
    rw [List.filter_cons, List.all_cons]
    cases inS c digits with
    | true => simpa using ih
    | false => rfl
theorem sc_w_number : FnScope ["_law_word", "_law_most", "_law_sign"] ["_law_word", "_law_most"] (defScope s_w_number) := ⟨rfl, rfl, rfl, by decide +kernel, rfl, by decide +kernel, by decide +kernel⟩
theorem ok_w_number (T : Tx K mg base) : Ok P w K mg base 1 (d_w_number.loc K) ["_law_word", "_law_most"] spNum := by
  refine mk_ok (k := 0) T.f_w_number sc_w_number (fun _ _ _ _ _ _ us hl => match us, hl with | [_, _], _ => rfl) (fun vs H Q E h => ?_) (fun cdv A outer s H vs Q E hr h => ?_)
  · obtain ⟨z, most, rfl, _⟩ := h
    rfl
  · obtain ⟨z, most, rfl, hz, k⟩ := h
    refine ⟨_, (pss_cons (ps_if (PW.pt (pw_or (pt_not (pt_chain op_lt op_le pe_int (pe_callB call_len_str (by rfl) T.b_len (by decide +kernel) (pa_cons (pv 0) pa_nil)) (pv 1))) (pw_or1 (pt_cmpR (op_neD hr.units) (pe_lc (own := [("_law_sign", 2)]) (g := (gName 2)) (by rfl) sc_w_number.nd (pi_str (pv 0)) (blkOk_by (own := [("_law_sign", 2)]) (N := ["_law_word", "_law_most", "_law_sign"]) (sc := defScope s_w_number) (by decide +kernel)) (fun _ _ _ _ _ => (pg_name (i := 2) sc_w_number.nd rfl (Or.inl rfl))) (fun _ _ _ _ _ => (pts_one (pt_cmpR op_notInS (pv 2) pe_str (by rfl)))) (fun _ _ _ _ _ => (pv 2))) (pe_lst pa_nil) (nomark _))))) (pss_one (ps_ret pe_non)) pss_nil)
      (pss_one (ps_ret (pe_ifExp (PW.pt (pw_and (pt_cmpR op_eq (pe_ix ix_str (pv 0) pe_int (fun _ _ => rfl)) pe_str (nomark _)) (pw_and1 (pt_cmpR op_gt (pe_callB call_len_str (by rfl) T.b_len (by decide +kernel) (pa_cons (pv 0) pa_nil)) pe_int (nomark _))))) pe_non (pe_callTy call_int_str (by rfl) T.b_int (by decide +kernel) (pa_cons (pv 0) pa_nil)))))), ?_⟩
    have no : ∀ H', Same H H' → numOk z most = false → Q .non H' := fun H' sm e => by
      have := k H' sm
      rw [numV_no e] at this
      exact this
    refine ⟨_, rfl, z, rfl, hz.le, _, _, rfl, rfl, _, rfl, ?_⟩
    refine ite2 (fun h1 => ?_) (fun h1 => ?_)
    · have h1' : 0 < (z.length : Int) := of_decide_eq_true h1
      refine ⟨_, rfl, _, _, rfl, rfl, _, rfl, ?_⟩
      by_cases h2 : (z.length : Int) ≤ most
      · rw [decide_eq_true h2]
        refine iteF ⟨_, rfl, z, rfl, fun D hD => ?_⟩
        refine lc_text (fun c => !inS c digits) (fun c => .str ⟨#[c]⟩) hz.lt hD (fun x => rfl) (fun c H' R _ _ k2 => ⟨_, rfl, _, _, rfl, rfl, _, rfl, k2 H' (Same.refl _)⟩) (fun c H' R _ _ k2 => ⟨_, rfl, k2 H' (Same.refl _)⟩) (fun H1 s1 hl => ?_)
        refine ⟨(by show 0 ≤ sizeLine; exact Nat.zero_le _), fun p hp => ne_nil (fun c hc => hz.ok c ((List.mem_filter.mp hc).1)) (by rw [upd_ne (ne_of_none hl hp)]; exact hl) upd_same ⟨_, rfl, ?_⟩⟩
        have sm : Same H (upd H1 p (.lst [])) := s1.trans (AT.Same.up hp)
        rw [all_empty]
        cases e4 : allDig z with
        | false => exact iteT (no _ sm (by unfold numOk; rw [e4, Bool.false_and, Bool.and_false]))
        | true =>
          refine iteF ⟨_, rfl, z, 0, _, rfl, rfl, hz.le, at0 h1', rfl, _, rfl, ?_⟩
          have fin : lead0 z = false → numV z most = .int (numN z) := fun q => numV_yes (by unfold numOk; rw [decide_eq_true h1', decide_eq_true h2, e4, q]; rfl)
          have fin0 : lead0 z = true → numOk z most = false := fun q => by unfold numOk; rw [q, Bool.not_true, Bool.and_false, Bool.and_false]
          have last : lead0 z = false → Q (.int (numN z)) (upd H1 p (.lst [])) := fun q => by
            have := k _ sm
            rw [fin q] at this
            exact this
          cases e5 : decide (V.str ⟨#[z.cps.getD 0 0]⟩ = V.str "0") with
          | false => exact iteF (iteF ⟨_, rfl, z, numN z, rfl, int_of (most := most) e4 h1' hz.len, Nat.le_trans hz.len (by decide), last (by unfold lead0; rw [e5]; rfl)⟩)
          | true =>
            refine iteT ⟨_, rfl, z, rfl, hz.le, _, _, rfl, rfl, _, rfl, ?_⟩
            cases e6 : decide (1 < (z.length : Int)) with
            | true => exact iteT (no _ sm (fin0 (by unfold lead0; rw [e5, e6]; rfl)))
            | false => exact iteF ⟨_, rfl, z, numN z, rfl, int_of (most := most) e4 h1' hz.len, Nat.le_trans hz.len (by decide), last (by unfold lead0; rw [e5, e6]; rfl)⟩
      · rw [decide_eq_false h2]
        exact iteT (iteT (no H (Same.refl _) (by unfold numOk; rw [decide_eq_false h2, Bool.and_false, Bool.false_and])))
    · refine ⟨_, rfl, iteT (iteT (no H (Same.refl _) ?_))⟩
      unfold numOk
      rw [show decide (0 < (z.length : Int)) = false by simpa using h1, Bool.false_and, Bool.false_and]
end
end K03

set_option maxHeartbeats 4000000
namespace K03
open PySem PySem.Spec PyProof.Rows L2 AT
/-! ### reading an amount -/
def minus (z : Str) : Bool := Txt.startswith z "-"
def bodyS (z : Str) : Str := cutS z (some (if minus z = true then 1 else 0)) none
def parts (z : Str) : List Str := Txt.split (bodyS z) "/"
def p0 (z : Str) : Str := (parts z).getD 0 Str.empty
def p1 (z : Str) : Str := (parts z).getD 1 Str.empty
/-- the bottom is written right -/
def botOk (z : Str) : Bool := if (parts z).length = 2 then numOk (p1 z) 4 && (decide (0 < numN (p1 z)) && decide (numN (p1 z) ≤ 1000)) else decide ((parts z).length = 1)
def botN (z : Str) : Int := if (parts z).length = 2 then numN (p1 z) else 1
def rdOk (z : Str) : Bool := numOk (p0 z) 6 && (botOk z && !(minus z && decide (numN (p0 z) = 0)))
def topN (z : Str) : Int := if minus z = true then -numN (p0 z) else numN (p0 z)
def readV : V → Option (Int × Int)
  | .str z => if rdOk z = true then some (topN z, botN z) else none
  | _ => none
theorem parts_len (z : Str) : 0 < (parts z).length := List.length_pos_iff.mpr (split_ne _ _)
theorem at_p0 (z : Str) : (parts z)[0]? = some (p0 z) := by
  unfold p0
  rw [List.getD_eq_getElem?_getD, List.getElem?_eq_getElem (parts_len z)]
  rfl
theorem at_p1 {z : Str} (h : 1 < (parts z).length) : (parts z)[1]? = some (p1 z) := by
  unfold p1
  rw [List.getD_eq_getElem?_getD, List.getElem?_eq_getElem h]
  rfl
theorem atI_map {l : List Str} {i : Nat} {p : Str} (h : l[i]? = some p) : atI (l.map V.str) (i : Int) = some (.str p) := atI_nat (by rw [List.getElem?_map, h]; rfl)
theorem good_p0 {z : Str} (g : Good z) : Good (p0 z) := (g.cut _ _).part (List.mem_of_getElem? (at_p0 z))
theorem good_p1 {z : Str} (g : Good z) (h : 1 < (parts z).length) : Good (p1 z) := (g.cut _ _).part (List.mem_of_getElem? (at_p1 h))
theorem bot_pos {z : Str} (h : rdOk z = true) : 0 < botN z ∧ botN z ≤ 1000 := by
  unfold rdOk at h
  rw [Bool.and_eq_true, Bool.and_eq_true] at h
  have h1 := h.2.1
  unfold botOk at h1
  unfold botN
  split
  · rename_i e
    rw [if_pos e] at h1
    simp only [Bool.and_eq_true, decide_eq_true_eq] at h1
    exact h1.2
  · omega
theorem bot_cases (z : Str) (h : (parts z).length ≤ 2) : ((if (parts z).length = 2 then numV (p1 z) 4 else V.int 1) = .non ∧ botOk z = false) ∨
    ∃ u : Int, (if (parts z).length = 2 then numV (p1 z) 4 else V.int 1) = .int u ∧ u = botN z ∧ botOk z = (decide (0 < u) && decide (u ≤ 1000)) := by
  have hp := parts_len z
  by_cases e : (parts z).length = 2
  · rw [if_pos e]
    unfold botOk botN
    rw [if_pos e, if_pos e]
    cases e2 : numOk (p1 z) 4 with
    | false => exact .inl ⟨numV_no e2, rfl⟩
    | true => exact .inr ⟨_, numV_yes e2, rfl, rfl⟩
  · rw [if_neg e]
    unfold botOk botN
    rw [if_neg e, if_neg e]
    exact .inr ⟨1, rfl, rfl, decide_eq_true (by omega)⟩
section
variable {P : Program} {w : World} {K : PySem.W.Frag} {mg : Str → Option Value} {base : Heap}
def spOf (K : PySem.W.Frag) : Sp := fun vs H Q _ => ∃ v, vs = [v] ∧ AnyV K H v ∧ (∀ z, v = .str z → Good z) ∧ (∀ H', Same H H' → readV v = none → Q .non H') ∧
  (∀ t u p H', readV v = some (t, u) → Same H H' → H p = none → IsAmt K H' p (lowT t u) (lowB t u) → Q (.ref p) H')
theorem sc_amount_of : FnScope ["text", "is_negative", "parts", "top", "bottom"] ["text"] (defScope s_amount_of) := ⟨rfl, rfl, rfl, by decide +kernel, rfl, by decide +kernel, by decide +kernel⟩
theorem ok_amount_of (T : Tx K mg base) : Ok P w K mg base 6 (d_amount_of.loc K) ["text"] (spOf K) := by
  refine mk_ok (k := 5) T.f_amount_of sc_amount_of (fun _ _ _ _ _ _ us hl => match us, hl with | [_], _ => rfl) (fun vs H Q E h => ?_) (fun cdv A outer s H vs Q E hr h => ?_)
  · obtain ⟨v, rfl, _⟩ := h
    rfl
  · obtain ⟨v, rfl, hv, hz, k1, k2⟩ := h
    refine ⟨_, (pss_cons (ps_if (pt_not (pt_val (pe_callB call_isi (by rfl) T.b_isinstance (by decide +kernel) (pa_cons (pv 0) (pa_cons (pe_bltn (v := .ty "str") rfl T.b_str (by decide +kernel) rfl) pa_nil))))) (pss_one (ps_ret pe_non)) pss_nil)
      (pss_cons (ps_set (i := 1) sc_amount_of.nd rfl (Or.inl rfl) (pe_m1 PySem.F.slot_str_startswith PySem.F.type_str_startswith mt_startswith (pv 0) pe_str))
      (pss_cons (ps_set (i := 2) sc_amount_of.nd rfl (Or.inl rfl) (pe_split (pe_slice sl_str (pv 0) (po_some (pe_callTy call_int1 (by rfl) T.b_int (by decide +kernel) (pa_cons (pv 1) pa_nil))) po_none) pe_str))
      (pss_cons (ps_set (i := 3) sc_amount_of.nd rfl (Or.inl rfl) (ok_call (ok_number_of T) (hr.mono (by decide)) rfl T.g_number_of passL (pa_cons (pe_ix ix_list (pv 2) pe_int (fun _ _ => rfl)) (pa_cons (pe_k T.c_LONGEST_TOP) pa_nil))))
      (Evl.pss_cut (ps_set (i := 4) sc_amount_of.nd rfl (Or.inl rfl) (pe_ifExp (pt_cmpR op_eq (pe_callB call_len_seq (by rfl) T.b_len (by decide +kernel) (pa_cons (pv 2) pa_nil)) pe_int (nomark _)) (ok_call (ok_number_of T) (hr.mono (by decide)) rfl T.g_number_of passL (pa_cons (pe_ix ix_list (pv 2) pe_int (fun _ _ => rfl)) (pa_cons (pe_k T.c_LONGEST_BOTTOM) pa_nil))) pe_int))
      (pss_cons (ps_if (PW.pt (pw_or (pt_cmpR op_gt (pe_callB call_len_seq (by rfl) T.b_len (by decide +kernel) (pa_cons (pv 2) pa_nil)) pe_int (nomark _)) (pw_or (pt_cmpR op_isN (pv 3) pe_non (nomark _)) (pw_or (pt_cmpR op_isN (pv 4) pe_non (nomark _)) (pw_or1 (pt_not (pt_chain op_lt op_le pe_int (pv 4) (pe_k T.c_MOST_BOTTOM)))))))) (pss_one (ps_ret pe_non)) pss_nil)
      (pss_cons (ps_if (PW.pt (pw_and (pt_val (pv 1)) (pw_and1 (pt_cmpR op_eq (pv 3) pe_int (nomark _))))) (pss_one (ps_ret pe_non)) pss_nil)
      (pss_one (ps_ret (ok_make T.mkr_Amount (ok_Amount_init_ T) (hr.mono (by decide)) rfl T.g_Amount (passE rfl rfl rfl rfl) (pa_cons (pe_ifExp (pt_val (pv 1)) (pe_un un_neg (pv 3)) (pv 3)) (pa_cons (pv 4) pa_nil)))))))))))), ?_⟩
    obtain ⟨t1, y1, q1⟩ := isi_str T hv
    refine ⟨_, rfl, _, _, _, _, _, rfl, .ty _, y1, q1, _, rfl, ?_⟩
    cases hv with
    | str z =>
      have g := hz z rfl
      have no : ∀ H', Same H H' → rdOk z = false → Q .non H' := fun H' sm e => k1 H' sm (by show (if rdOk z = true then some (topN z, botN z) else none) = none; rw [e]; rfl)
      refine iteF ⟨_, rfl, ⟨z, rfl⟩, z, "-", rfl, rfl, ?_⟩
      refine ⟨_, rfl, _, rfl, .inr ⟨_, rfl, _, rfl, z, rfl, g.le, ⟨_, rfl⟩, bodyS z, "/", rfl, rfl, rfl, ?_, fun pp hpp => ?_⟩⟩
      · have := (g.cut (some (if minus z = true then 1 else 0)) none).len
        show (bodyS z).length + 2 ≤ sizeLine
        unfold bodyS
        rw [sizeLine_eq]
        omega
      · have s0 : Same H (upd H pp (.lst ((parts z).map V.str))) := AT.Same.up hpp
        refine ⟨_, rfl, pp, _, 0, _, rfl, rfl, SqL.of upd_same, atI_map (i := 0) (at_p0 z), p0 z, 6, rfl, good_p0 g, fun H1 s1 => ?_⟩
        have hl1 : H1 pp = some (.lst ((parts z).map V.str)) := s1 _ _ upd_same
        have hpos := parts_len z
        refine ⟨fun σ2 H2 => Same H1 H2 ∧ σ2 = ([some (.str z), some (.bl (minus z)), some (.ref pp), some (numV (p0 z) 6), some (if (parts z).length = 2 then numV (p1 z) 4 else .int 1)] : L2.St), ?_, ?_⟩
        · refine ⟨_, rfl, pp, _, rfl, .inl (SqL.of hl1), rfl, _, rfl, ?_⟩
          by_cases e2 : (parts z).length = 2
          · rw [decide_eq_true (by rw [List.length_map, e2]; rfl)]
            refine iteT ⟨_, rfl, pp, _, 1, _, rfl, rfl, SqL.of hl1, atI_map (i := 1) (at_p1 (by omega)), p1 z, 4, rfl, good_p1 g (by omega), fun H2 s2 => ⟨s2, ?_⟩⟩
            rw [if_pos e2]
            rfl
          · rw [decide_eq_false (by intro q; have := V.int.inj q; rw [List.length_map] at this; omega)]
            refine iteF ⟨Same.refl _, ?_⟩
            rw [if_neg e2]
            rfl
        · rintro σ2 H2 ⟨s2, rfl⟩
          have sm : Same H H2 := (s0.trans s1).trans s2
          have hl2 : H2 pp = some (.lst ((parts z).map V.str)) := s2 _ _ hl1
          refine ⟨_, rfl, pp, _, rfl, .inl (SqL.of hl2), _, _, rfl, rfl, _, rfl, ?_⟩
          by_cases h3 : (parts z).length ≤ 2
          · rw [decide_eq_false (by rw [List.length_map]; omega)]
            refine iteF ⟨_, rfl, rfl, _, rfl, ?_⟩
            cases e5 : numOk (p0 z) 6 with
            | false =>
              rw [numV_no e5]
              exact iteT (iteT (no _ sm (by unfold rdOk; rw [e5]; rfl)))
            | true =>
              rw [numV_yes e5]
              rcases bot_cases z h3 with ⟨e7, e8⟩ | ⟨u, e7, e8, e9⟩
              · rw [e7]
                refine iteF ⟨_, rfl, rfl, _, rfl, iteT (iteT (no _ sm ?_))⟩
                unfold rdOk
                rw [e8, Bool.false_and, Bool.and_false]
              · rw [e7]
                refine iteF ⟨_, rfl, rfl, _, rfl, iteF ⟨_, rfl, _, _, rfl, rfl, _, rfl, ?_⟩⟩
                have bad : botOk z = false → Q .non H2 := fun q => no _ sm (by unfold rdOk; rw [q, Bool.false_and, Bool.and_false])
                refine ite2 (fun h4 => ?_) (fun h4 => ?_)
                · refine ⟨_, _, rfl, rfl, _, rfl, ?_⟩
                  cases e10 : decide (u ≤ 1000) with
                  | false => exact iteT (bad (by rw [e9, e10, Bool.and_false]))
                  | true =>
                    have e11 : botOk z = true := by rw [e9, h4, e10]; rfl
                    refine iteF ⟨_, rfl, _, rfl, ?_⟩
                    have made : rdOk z = true → tRet (tMake (cA K) (spAmt K) [] E (tCons (tIf (tB (tVar 1)) (tUn (rU fun i => .int (-i)) (tVar 3)) (tVar 3)) (tCons (tVar 4) tNil))) { nx := fun _ H' => Q .non H', rt := Q } ([some (.str z), some (.bl (minus z)), some (.ref pp), some (.int (numN (p0 z))), some (.int u)] : L2.St) H2 := fun q => by
                      have hr : readV (.str z) = some (topN z, botN z) := by show (if rdOk z = true then some (topN z, botN z) else none) = _; rw [q]; rfl
                      have hu := bot_pos q
                      rw [← e8] at hu
                      refine ⟨_, rfl, _, rfl, ?_⟩
                      have fin : ∀ n, n = topN z → ∀ x dx, H2 x = none → H2 dx = none → dx ≠ x → spAmt K (.ref x :: [.int n, .int u]) (upd (upd H2 dx (.own x)) x (.ins (cA K) dx [])) (fun v H3 => v = .non ∧ Q (.ref x) H3) E := by
                        rintro n rfl
                        refine amt_made (by omega) (Nat.lt_of_le_of_lt (show u.natAbs ≤ 1000 by omega) (by decide +kernel)) fun p H3 s3 hp hA => ?_
                        refine k2 (topN z) u p H3 (by rw [hr, e8]) (sm.trans s3) (sm.free hp) hA
                      unfold topN at fin
                      cases e12 : minus z with
                      | true =>
                        rw [e12] at fin
                        exact iteT ⟨_, rfl, _, rfl, _, rfl, fin _ rfl⟩
                      | false =>
                        rw [e12] at fin
                        exact iteF ⟨_, rfl, _, rfl, fin _ rfl⟩
                    cases e12 : minus z with
                    | false =>
                      rw [e12] at made
                      exact iteF (iteF (made (by unfold rdOk; rw [e5, e11, e12]; rfl)))
                    | true =>
                      rw [e12] at made
                      refine iteT ⟨_, rfl, rfl, _, rfl, ?_⟩
                      by_cases e13 : numN (p0 z) = 0
                      · rw [decide_eq_true (congrArg V.int e13)]
                        exact iteT (no _ sm (by unfold rdOk; rw [e12, decide_eq_true e13, e5, e11]; rfl))
                      · rw [decide_eq_false (fun q => e13 (V.int.inj q))]
                        exact iteF (made (by unfold rdOk; rw [e12, decide_eq_false e13, e5, e11]; rfl))
                · refine ⟨_, rfl, iteT (bad ?_)⟩
                  rw [e9, show decide (0 < u) = false by simpa using h4, Bool.false_and]
          · rw [decide_eq_true (by rw [List.length_map]; omega)]
            refine iteT (iteT (no _ sm ?_))
            have e6 : botOk z = false := by unfold botOk; rw [if_neg (by omega)]; exact decide_eq_false (by omega)
            unfold rdOk
            rw [e6, Bool.false_and, Bool.and_false]
    | _ => exact iteT (k1 H (Same.refl _) rfl)
end
end K03

set_option maxHeartbeats 4000000
namespace K03
open PySem PySem.Spec PyProof.Rows L2 AT
theorem str_ext {x y : Str} (h : x.cps.toList = y.cps.toList) : x = y := Str.ext' (Array.toList_inj.mp h)
theorem cut1 (z : Str) : (cutS z none (some 1)).cps.toList = z.cps.toList.take 1 := by
  show (z.cps.toList.drop 0).take (HT.sIx z.length z.length (some 1) - 0) = _
  rw [List.drop_zero, Nat.sub_zero]
  have e : HT.sIx z.length z.length (some 1) = min 1 z.length := HT.sIx_nat z.length z.length 1
  rw [e, ← len_list]
  cases z.cps.toList with
  | nil => rfl
  | cons c l => simp
theorem minus_cut (z : Str) : decide (V.str (cutS z none (some 1)) = V.str "-") = minus z := by
  rw [Bool.eq_iff_iff, decide_eq_true_eq]
  have h1 : minus z = (decide (0 + 1 ≤ z.length) && ((z.cps.toList.drop 0).take 1 == [45])) := by
    unfold minus Txt.startswith
    rw [StrLaws.subAt_eq]
    rfl
  rw [h1, List.drop_zero]
  constructor
  · intro e
    have e2 := V.str.inj e
    have e3 : z.cps.toList.take 1 = [45] := by rw [← cut1, e2]; rfl
    rw [e3, ← len_list]
    have : (z.cps.toList.take 1).length = 1 := by rw [e3]; rfl
    rw [List.length_take] at this
    rw [decide_eq_true (by omega)]
    rfl
  · intro e
    rw [Bool.and_eq_true, beq_iff_eq] at e
    refine congrArg V.str (str_ext ?_)
    rw [cut1, e.2]
    rfl
section
variable {P : Program} {w : World} {K : PySem.W.Frag} {mg : Str → Option Value} {base : Heap}
def spLow : Sp := fun vs H Q _ => ∃ t b : Int, vs = [.int t, .int b] ∧ b ≠ 0 ∧ b.natAbs < 2 ^ 8000 ∧ ∀ p H', Same H H' → H p = none → H' p = some (.tup [.int (lowT t b), .int (lowB t b)]) → Q (.ref p) H'
theorem sc_w_lowest : FnScope ["_law_top", "_law_bottom", "_law_one", "_law_other"] ["_law_top", "_law_bottom"] (defScope s_w_lowest) := ⟨rfl, rfl, rfl, by decide +kernel, rfl, by decide +kernel, by decide +kernel⟩
theorem ok_w_lowest (T : Tx K mg base) : Ok P w K mg base 1 (d_w_lowest.loc K) ["_law_top", "_law_bottom"] spLow := by
  refine mk_ok (k := 0) T.f_w_lowest sc_w_lowest (fun _ _ _ _ _ _ us hl => match us, hl with | [_, _], _ => rfl) (fun vs H Q E h => ?_) (fun cdv A outer s H vs Q E hr h => ?_)
  · obtain ⟨t, b, rfl, _⟩ := h
    rfl
  · obtain ⟨t, b, rfl, hb0, hbd, k⟩ := h
    refine ⟨_, (pss_cons (ps_par (by rfl) sc_w_lowest.nd (i := 2) (j := 3) rfl rfl (by decide) rfl rfl (pa_cons (pe_callB call_abs (by rfl) T.b_abs (by decide +kernel) (pa_cons (pv 0) pa_nil)) (pa_cons (pe_callB call_abs (by rfl) T.b_abs (by decide +kernel) (pa_cons (pv 1) pa_nil)) pa_nil)) (by rfl))
      (pss_cons (ps_while (passes_of rfl) (pt_cmpR op_gt (pv 3) pe_int (nomark _)) (pss_one (ps_par (by rfl) sc_w_lowest.nd (i := 2) (j := 3) rfl rfl (by decide) rfl rfl (pa_cons (pv 3) (pa_cons (pe_op op_mod (pv 2) (pv 3)) pa_nil)) (by rfl))))
      (pss_cons (ps_set (i := 2) sc_w_lowest.nd rfl (Or.inl rfl) (pe_ifExp (pt_cmpR op_gt (pv 1) pe_int (nomark _)) (pv 2) (pe_op op_sub pe_int (pv 2))))
      (pss_one (ps_ret (pe_tup (pa_cons (pe_op op_fdivZ (pv 0) (pv 2)) (pa_cons (pe_op op_fdivZ (pv 1) (pv 2)) pa_nil)))))))), ?_⟩
    refine ⟨_, rfl, t, rfl, _, rfl, b, rfl, _, _, rfl, ?_⟩
    refine ⟨fun m σ H' => ∃ a' b' : Int, σ = ([some (.int t), some (.int b), some (.int a'), some (.int b')] : L2.St) ∧ H' = H ∧ 0 ≤ a' ∧ 0 ≤ b' ∧ Int.gcd a' b' = Int.gcd t b ∧ m = b'.toNat, ⟨_, _, _, rfl, rfl, (by split <;> omega), (by split <;> omega), abs_gcd t b, rfl⟩, ?_⟩
    rintro m σ H' ⟨a', b', rfl, rfl, ha', hb', hg, rfl⟩
    refine ⟨_, rfl, _, _, rfl, rfl, _, rfl, ?_⟩
    refine ite2 (fun h1 => ?_) (fun h1 => ?_)
    · have h1' : 0 < b' := of_decide_eq_true h1
      refine ⟨fun σ2 H2 => ∃ a2 b2 : Int, σ2 = ([some (.int t), some (.int b), some (.int a2), some (.int b2)] : L2.St) ∧ H2 = H' ∧ 0 ≤ a2 ∧ 0 ≤ b2 ∧ Int.gcd a2 b2 = Int.gcd t b ∧ b2 < b', ?_, ?_⟩
      · rintro σ2 H2 ⟨a2, b2, rfl, rfl, h2, h3, h4, h5⟩
        exact ⟨b2.toNat, by omega, a2, b2, rfl, rfl, h2, h3, h4, rfl⟩
      · refine ⟨_, rfl, _, rfl, _, rfl, _, _, rfl, rfl, h1', _, _, rfl, ?_⟩
        exact ⟨b', a' % b', rfl, rfl, hb', Int.emod_nonneg _ (by omega), by rw [gcd_turn ha' h1', hg], Int.emod_lt_of_pos _ h1'⟩
    · have h0 : b' = 0 := by
        have := of_decide_eq_false (by simpa using h1 : decide (0 < b') = false)
        omega
      subst h0
      have e : a' = (Int.gcd t b : Nat) := by rw [← hg, Int.gcd_zero_right]; omega
      subst e
      have hgp := gcd_pos (t := t) hb0
      have hle := gcd_le (t := t) hb0
      have hlog : (Int.gcd t b).log2 < 9000 := log_lt (by decide) (Nat.lt_of_le_of_lt hle (Nat.lt_trans hbd (Nat.pow_lt_pow_right (by decide) (by decide))))
      have fin : ∀ f, f = fac t b → f ≠ 0 → f.natAbs.log2 < 9000 → tRet (tTup (tCons (tOp (rI CDivZ fun i j => .int (i.fdiv j)) (tVar 0) (tVar 2)) (tCons (tOp (rI CDivZ fun i j => .int (i.fdiv j)) (tVar 1) (tVar 2)) tNil))) { nx := fun _ H' => Q .non H', rt := Q } ([some (.int t), some (.int b), some (.int f), some (.int 0)] : L2.St) H' := by
        rintro f rfl hf hl
        exact ⟨_, rfl, _, rfl, _, _, rfl, rfl, ⟨hf, hl⟩, _, rfl, _, rfl, _, _, rfl, rfl, ⟨hf, hl⟩, (by show 2 ≤ sizeLine; decide), fun p hp => k p _ (AT.Same.up hp) hp upd_same⟩
      refine ⟨_, rfl, _, _, rfl, rfl, _, rfl, ?_⟩
      refine ite2 (fun h2 => ?_) (fun h2 => ?_)
      · have h2' : 0 < b := of_decide_eq_true h2
        exact ⟨_, rfl, fin _ (by unfold fac; rw [if_neg (by omega)]) (by omega) (by rw [Int.natAbs_natCast]; exact hlog)⟩
      · have h2' : ¬ 0 < b := of_decide_eq_false (by simpa using h2)
        refine ⟨_, rfl, _, _, rfl, rfl, ?_⟩
        have := fin (0 - (Int.gcd t b : Nat)) (by unfold fac; rw [if_pos (by omega)]; omega) (by omega) (by rw [show (0 - (Int.gcd t b : Int)).natAbs = Int.gcd t b by omega]; exact hlog)
        exact this
def lineS (t b : Int) : Str := toString t ++ (if b = 1 then ("" : Str) else ("/" : Str) ++ toString b)
theorem line_eq (n d : Int) : amtText n d = lineS n d := by
  unfold amtText lineS
  split
  · exact (Str.append_empty _).symm
  · refine str_ext ?_
    show ((Str.empty.cps ++ (Str.ofString (toString n)).cps ++ (Str.ofString "/").cps) ++ (Str.ofString (toString d)).cps).toList = ((Str.ofString (toString n)).cps ++ ((Str.ofString "/").cps ++ (Str.ofString (toString d)).cps)).toList
    have e : Str.empty.cps = #[] := rfl
    rw [e]
    simp only [Array.toList_append, List.append_assoc, List.nil_append, Array.toList_empty]
def spLine : Sp := fun vs H Q _ => ∃ t b : Int, vs = [.int t, .int b] ∧ t.natAbs < 2 ^ 1000 ∧ b.natAbs < 2 ^ 1000 ∧ Q (.str (lineS t b)) H
theorem sc_w_line : FnScope ["_law_top", "_law_bottom"] ["_law_top", "_law_bottom"] (defScope s_w_line) := ⟨rfl, rfl, rfl, by decide +kernel, rfl, by decide +kernel, by decide +kernel⟩
theorem ok_w_line (T : Tx K mg base) : Ok P w K mg base 1 (d_w_line.loc K) ["_law_top", "_law_bottom"] spLine := by
  refine mk_ok (k := 0) T.f_w_line sc_w_line (fun _ _ _ _ _ _ us hl => match us, hl with | [_, _], _ => rfl) (fun vs H Q E h => ?_) (fun cdv A outer s H vs Q E hr h => ?_)
  · obtain ⟨t, b, rfl, _⟩ := h
    rfl
  · obtain ⟨t, b, rfl, ht, hb, k⟩ := h
    refine ⟨_, (pss_one (ps_ret (pe_op op_add_str (pe_callTy call_str_int (by rfl) T.b_str (by decide +kernel) (pa_cons (pv 0) pa_nil)) (pe_ifExp (pt_cmpR op_eq (pv 1) pe_int (nomark _)) pe_str (pe_op op_add_str pe_str (pe_callTy call_str_int (by rfl) T.b_str (by decide +kernel) (pa_cons (pv 1) pa_nil))))))), ?_⟩
    have l1 : t.natAbs.log2 < 1920 := Nat.lt_trans (log_lt (by decide) ht) (by decide)
    have l2 : b.natAbs.log2 < 1920 := Nat.lt_trans (log_lt (by decide) hb) (by decide)
    have t1 := text_len t ht
    have t2 := text_len b hb
    refine ⟨_, rfl, t, rfl, l1, _, rfl, rfl, _, rfl, ?_⟩
    unfold lineS at k
    by_cases h1 : b = 1
    · rw [if_pos h1] at k
      rw [decide_eq_true (congrArg V.int h1)]
      refine iteT ⟨_, _, rfl, rfl, ?_, k⟩
      rw [sizeLine_eq]
      have : Str.length "" = 0 := rfl
      omega
    · rw [if_neg h1] at k
      rw [decide_eq_false (fun q => h1 (V.int.inj q))]
      have e1 : Str.length "/" = 1 := rfl
      refine iteF ⟨_, rfl, b, rfl, l2, _, _, rfl, rfl, ?_, _, _, rfl, rfl, ?_, k⟩
      · rw [sizeLine_eq]
        omega
      · rw [len_app, sizeLine_eq]
        omega
def spRead : Sp := fun vs H Q _ => ∃ z, vs = [.str z] ∧ Good z ∧ (∀ H', Same H H' → readV (.str z) = none → Q .non H') ∧
  (∀ t u p H', readV (.str z) = some (t, u) → Same H H' → H p = none → H' p = some (.tup [.int (lowT t u), .int (lowB t u)]) → Q (.ref p) H')
theorem sc_w_read : FnScope ["_law_line_here", "_law_minus", "_law_parts", "_law_top", "_law_bottom"] ["_law_line_here"] (defScope s_w_read) := ⟨rfl, rfl, rfl, by decide +kernel, rfl, by decide +kernel, by decide +kernel⟩
theorem ok_w_read (T : Tx K mg base) : Ok P w K mg base 2 (d_w_read.loc K) ["_law_line_here"] spRead := by
  refine mk_ok (k := 1) T.f_w_read sc_w_read (fun _ _ _ _ _ _ us hl => match us, hl with | [_], _ => rfl) (fun vs H Q E h => ?_) (fun cdv A outer s H vs Q E hr h => ?_)
  · obtain ⟨z, rfl, _⟩ := h
    rfl
  · obtain ⟨z, rfl, g, k1, k2⟩ := h
    refine ⟨_, (pss_cons (ps_if (pt_not (pt_val (pe_callB call_isi (by rfl) T.b_isinstance (by decide +kernel) (pa_cons (pv 0) (pa_cons (pe_bltn (v := .ty "str") rfl T.b_str (by decide +kernel) rfl) pa_nil))))) (pss_one (ps_ret pe_non)) pss_nil)
      (pss_cons (ps_set (i := 1) sc_w_read.nd rfl (Or.inl rfl) (pe_cmpR op_eq (pe_slice sl_str (pv 0) po_none (po_some pe_int)) pe_str (nomark _)))
      (pss_cons (ps_set (i := 2) sc_w_read.nd rfl (Or.inl rfl) (pe_split (pe_slice sl_str (pv 0) (po_some (pe_callTy call_int1 (by rfl) T.b_int (by decide +kernel) (pa_cons (pv 1) pa_nil))) po_none) pe_str))
      (pss_cons (ps_set (i := 3) sc_w_read.nd rfl (Or.inl rfl) (ok_call (ok_w_number T) (hr.mono (by decide)) rfl T.g_w_number passL (pa_cons (pe_ix ix_list (pv 2) pe_int (fun _ _ => rfl)) (pa_cons pe_int pa_nil))))
      (Evl.pss_cut (ps_set (i := 4) sc_w_read.nd rfl (Or.inl rfl) (pe_ifExp (pt_cmpR op_eq (pe_callB call_len_seq (by rfl) T.b_len (by decide +kernel) (pa_cons (pv 2) pa_nil)) pe_int (nomark _)) pe_int (ok_call (ok_w_number T) (hr.mono (by decide)) rfl T.g_w_number passL (pa_cons (pe_ix ix_list (pv 2) pe_int (fun _ _ => rfl)) (pa_cons pe_int pa_nil)))))
      (pss_cons (ps_if (PW.pt (pw_or (pt_cmpR op_gt (pe_callB call_len_seq (by rfl) T.b_len (by decide +kernel) (pa_cons (pv 2) pa_nil)) pe_int (nomark _)) (pw_or (pt_cmpR op_isN (pv 3) pe_non (nomark _)) (pw_or (pt_cmpR op_isN (pv 4) pe_non (nomark _)) (pw_or (pt_not (pt_chain op_le op_le pe_int (pv 4) pe_int)) (pw_or1 (PW.pt (pw_and (pt_val (pv 1)) (pw_and1 (pt_cmpR op_eq (pv 3) pe_int (nomark _))))))))))) (pss_one (ps_ret pe_non)) pss_nil)
      (pss_one (ps_ret (ok_call (ok_w_lowest T) (hr.mono (by decide)) rfl T.g_w_lowest passL (pa_cons (pe_ifExp (pt_val (pv 1)) (pe_op op_sub pe_int (pv 3)) (pv 3)) (pa_cons (pv 4) pa_nil))))))))))), ?_⟩
    refine ⟨_, rfl, _, _, _, _, _, rfl, .ty _, .base (.str z), kit_ty (r := true) (by decide +kernel), _, rfl, ?_⟩
    have no : ∀ H', Same H H' → rdOk z = false → Q .non H' := fun H' sm e => k1 H' sm (by show (if rdOk z = true then some (topN z, botN z) else none) = none; rw [e]; rfl)
    refine iteF ⟨_, rfl, 1, rfl, z, rfl, g.le, rfl, ?_⟩
    rw [minus_cut]
    refine ⟨_, rfl, _, rfl, .inr ⟨_, rfl, _, rfl, z, rfl, g.le, ⟨_, rfl⟩, bodyS z, "/", rfl, rfl, rfl, ?_, fun pp hpp => ?_⟩⟩
    · have := (g.cut (some (if minus z = true then 1 else 0)) none).len
      show (bodyS z).length + 2 ≤ sizeLine
      unfold bodyS
      rw [sizeLine_eq]
      omega
    · have s0 : Same H (upd H pp (.lst ((parts z).map V.str))) := AT.Same.up hpp
      refine ⟨_, rfl, pp, _, 0, _, rfl, rfl, SqL.of upd_same, atI_map (i := 0) (at_p0 z), p0 z, 6, rfl, good_p0 g, fun H1 s1 => ?_⟩
      have hl1 : H1 pp = some (.lst ((parts z).map V.str)) := s1 _ _ upd_same
      have hpos := parts_len z
      refine ⟨fun σ2 H2 => Same H1 H2 ∧ ∃ bv, σ2 = ([some (.str z), some (.bl (minus z)), some (.ref pp), some (numV (p0 z) 6), some bv] : L2.St) ∧ ((parts z).length ≤ 2 → bv = (if (parts z).length = 2 then numV (p1 z) 4 else .int 1)), ?_, ?_⟩
      · refine ⟨_, rfl, pp, _, rfl, .inl (SqL.of hl1), rfl, _, rfl, ?_⟩
        by_cases e2 : (parts z).length = 1
        · rw [decide_eq_true (by rw [List.length_map, e2]; rfl)]
          refine iteT ⟨Same.refl _, _, rfl, fun _ => ?_⟩
          rw [if_neg (by omega)]
        · rw [decide_eq_false (by intro q; have := V.int.inj q; rw [List.length_map] at this; omega)]
          refine iteF ⟨_, rfl, pp, _, 1, _, rfl, rfl, SqL.of hl1, atI_map (i := 1) (at_p1 (by omega)), p1 z, 4, rfl, good_p1 g (by omega), fun H2 s2 => ⟨s2, _, rfl, fun _ => ?_⟩⟩
          rw [if_pos (by omega)]
      · rintro σ2 H2 ⟨s2, bv, rfl, hbv⟩
        have sm : Same H H2 := (s0.trans s1).trans s2
        have hl2 : H2 pp = some (.lst ((parts z).map V.str)) := s2 _ _ hl1
        refine ⟨_, rfl, pp, _, rfl, .inl (SqL.of hl2), _, _, rfl, rfl, _, rfl, ?_⟩
        by_cases h3 : (parts z).length ≤ 2
        · rw [decide_eq_false (by rw [List.length_map]; omega), hbv h3]
          refine iteF ⟨_, rfl, rfl, _, rfl, ?_⟩
          cases e5 : numOk (p0 z) 6 with
          | false =>
            rw [numV_no e5]
            exact iteT (iteT (no _ sm (by unfold rdOk; rw [e5]; rfl)))
          | true =>
            rw [numV_yes e5]
            rcases bot_cases z h3 with ⟨e7, e8⟩ | ⟨u, e7, e8, e9⟩
            · rw [e7]
              refine iteF ⟨_, rfl, rfl, _, rfl, iteT (iteT (no _ sm ?_))⟩
              unfold rdOk
              rw [e8, Bool.false_and, Bool.and_false]
            · rw [e7]
              refine iteF ⟨_, rfl, rfl, _, rfl, iteF ⟨_, rfl, _, _, rfl, rfl, _, rfl, ?_⟩⟩
              have bad : botOk z = false → Q .non H2 := fun q => no _ sm (by unfold rdOk; rw [q, Bool.false_and, Bool.and_false])
              refine ite2 (fun h4 => ?_) (fun h4 => ?_)
              · have h4' : 1 ≤ u := of_decide_eq_true h4
                refine ⟨_, _, rfl, rfl, _, rfl, ?_⟩
                cases e10 : decide (u ≤ 1000) with
                | false => exact iteT (iteT (bad (by rw [e9, e10, Bool.and_false])))
                | true =>
                  have e11 : botOk z = true := by rw [e9, e10, decide_eq_true (by omega)]; rfl
                  refine iteF ⟨_, rfl, _, rfl, ?_⟩
                  have made : rdOk z = true → tRet (tCall spLow [] E0 (tCons (tIf (tB (tVar 1)) (tOp (rI0 fun i j => .int (i - j)) (tC (.int 0)) (tVar 3)) (tVar 3)) (tCons (tVar 4) tNil))) { nx := fun _ H' => Q .non H', rt := Q } ([some (.str z), some (.bl (minus z)), some (.ref pp), some (.int (numN (p0 z))), some (.int u)] : L2.St) H2 := fun q => by
                    have hr : readV (.str z) = some (topN z, botN z) := by show (if rdOk z = true then some (topN z, botN z) else none) = _; rw [q]; rfl
                    have hu := bot_pos q
                    rw [← e8] at hu
                    have fin : ∀ n, n = topN z → spLow [.int n, .int u] H2 Q E0 := by
                      rintro n rfl
                      exact ⟨_, _, rfl, by omega, Nat.lt_of_le_of_lt (show u.natAbs ≤ 1000 by omega) (by decide +kernel), fun p H3 s3 hp hA => k2 (topN z) u p H3 (by rw [hr, e8]) (sm.trans s3) (sm.free hp) hA⟩
                    refine ⟨_, rfl, _, rfl, ?_⟩
                    unfold topN at fin
                    cases e12 : minus z with
                    | true =>
                      rw [e12] at fin
                      exact iteT ⟨_, rfl, _, _, rfl, rfl, _, rfl, fin _ (by simp)⟩
                    | false =>
                      rw [e12] at fin
                      exact iteF ⟨_, rfl, _, rfl, fin _ rfl⟩
                  cases e12 : minus z with
                  | false =>
                    rw [e12] at made
                    exact iteF (iteF (made (by unfold rdOk; rw [e5, e11, e12]; rfl)))
                  | true =>
                    rw [e12] at made
                    refine iteT ⟨_, rfl, rfl, _, rfl, ?_⟩
                    by_cases e13 : numN (p0 z) = 0
                    · rw [decide_eq_true (congrArg V.int e13)]
                      exact iteT (no _ sm (by unfold rdOk; rw [e12, decide_eq_true e13, e5, e11]; rfl))
                    · rw [decide_eq_false (fun q => e13 (V.int.inj q))]
                      exact iteF (made (by unfold rdOk; rw [e12, decide_eq_false e13, e5, e11]; rfl))
              · have h4' : ¬ 1 ≤ u := of_decide_eq_false (by simpa using h4)
                refine ⟨_, rfl, iteT (iteT (bad ?_))⟩
                rw [e9, decide_eq_false (show ¬ 0 < u by omega), Bool.false_and]
        · rw [decide_eq_true (by rw [List.length_map]; omega)]
          refine iteT (iteT (no _ sm ?_))
          have e6 : botOk z = false := by unfold botOk; rw [if_neg (by omega)]; exact decide_eq_false (by omega)
          unfold rdOk
          rw [e6, Bool.false_and, Bool.and_false]
end
end K03

set_option maxHeartbeats 4000000
namespace K03
open PySem PySem.Spec PyProof.Rows L2 AT
/-! ### the law's draws -/
def BoxAt (H : Hp) (p : Addr) (n : Nat) : Prop := ∃ a b c : Int, H p = some (.lst [.int a, .int b, .int c]) ∧ 0 ≤ a ∧ 0 ≤ b ∧ b < 2147483629 ∧ 0 ≤ c ∧ c ≤ n
/-- all but the object at p is as it was -/
def SameX (p : Addr) (H H' : Hp) : Prop := ∀ b o, b ≠ p → H b = some o → H' b = some o
theorem SameX.refl (p : Addr) (H : Hp) : SameX p H H := fun _ _ _ e => e
theorem SameX.trans {p : Addr} {H H1 H2 : Hp} (a : SameX p H H1) (b : SameX p H1 H2) : SameX p H H2 := fun x o n e => b x o n (a x o n e)
theorem sameX_of {p : Addr} {H H' : Hp} (s : Same H H') : SameX p H H' := fun b o _ e => s b o e
theorem BoxAt.up {H H' : Hp} {p : Addr} {n : Nat} (h : BoxAt H p n) (s : Same H H') : BoxAt H' p n := by
  obtain ⟨a, b, c, e, r⟩ := h
  exact ⟨a, b, c, s _ _ e, r⟩
theorem BoxAt.mono {H : Hp} {p : Addr} {n m : Nat} (h : BoxAt H p n) (l : n ≤ m) : BoxAt H p m := by
  obtain ⟨a, b, c, e, h1, h2, h3, h4, h5⟩ := h
  exact ⟨a, b, c, e, h1, h2, h3, h4, by omega⟩
section
variable {P : Program} {w : World} {K : PySem.W.Frag} {mg : Str → Option Value} {base : Heap}
def spCell (K : PySem.W.Frag) : Sp := fun vs H Q _ => ∃ (a : Addr) (ns : List Int) (k : Nat), vs = [.ref a, .int k] ∧ SqL K H a (ns.map V.int) ∧ k < 100 ∧ ∀ c : Int, Q (.int c) H
theorem sc_w_cell : FnScope ["_law_script", "_law_k"] ["_law_script", "_law_k"] (defScope s_w_cell) := ⟨rfl, rfl, rfl, by decide +kernel, rfl, by decide +kernel, by decide +kernel⟩
theorem ok_w_cell (T : Tx K mg base) : Ok P w K mg base 1 (d_w_cell.loc K) ["_law_script", "_law_k"] (spCell K) := by
  refine mk_ok (k := 0) T.f_w_cell sc_w_cell (fun _ _ _ _ _ _ us hl => match us, hl with | [_, _], _ => rfl) (fun vs H Q E h => ?_) (fun cdv A outer s H vs Q E hr h => ?_)
  · obtain ⟨a, ns, k, rfl, _⟩ := h
    rfl
  · obtain ⟨a, ns, k, rfl, hS, hk, q⟩ := h
    refine ⟨_, (pss_cons (ps_if (pt_cmpR op_lt (pv 1) (pe_callB call_len_seq (by rfl) T.b_len (by decide +kernel) (pa_cons (pv 0) pa_nil)) (nomark _)) (pss_one (ps_ret (pe_ix ix_list (pv 0) (pv 1) (fun _ _ => rfl)))) pss_nil)
      (pss_one (ps_ret (pe_op op_add (pe_op op_mulW pe_int (pv 1)) pe_int)))), ?_⟩
    refine ⟨_, rfl, _, rfl, a, _, rfl, .inl hS, _, _, rfl, rfl, _, rfl, ?_⟩
    refine ite2 (fun h1 => ?_) (fun h1 => ?_)
    · have h1' : (k : Int) < ((ns.map V.int).length : Int) := of_decide_eq_true h1
      rw [List.length_map] at h1'
      have hx : (ns.map V.int)[k]? = some (.int (ns.getD k 0)) := by
        rw [List.getElem?_map, List.getElem?_eq_getElem (by omega), List.getD_eq_getElem?_getD, List.getElem?_eq_getElem (by omega)]
        rfl
      exact ⟨_, rfl, _, rfl, a, _, _, _, rfl, rfl, hS, atI_nat hx, q _⟩
    · exact ⟨_, rfl, _, _, rfl, rfl, wide_mul (a := 64) (b := 64) (by decide) (by rw [Int.natAbs_natCast]; exact Nat.lt_trans hk (by decide)) (by decide) (by decide) (by decide), _, _, rfl, rfl, q _⟩
def spBox : Sp := fun vs H Q _ => ∃ c : Int, vs = [.int c] ∧ ∀ p H', Same H H' → H p = none → BoxAt H' p 0 → Q (.ref p) H'
theorem sc_w_box : FnScope ["_law_cell_here"] ["_law_cell_here"] (defScope s_w_box) := ⟨rfl, rfl, rfl, by decide +kernel, rfl, by decide +kernel, by decide +kernel⟩
theorem ok_w_box (T : Tx K mg base) : Ok P w K mg base 1 (d_w_box.loc K) ["_law_cell_here"] spBox := by
  refine mk_ok (k := 0) T.f_w_box sc_w_box (fun _ _ _ _ _ _ us hl => match us, hl with | [_], _ => rfl) (fun vs H Q E h => ?_) (fun cdv A outer s H vs Q E hr h => ?_)
  · obtain ⟨c, rfl, _⟩ := h
    rfl
  · obtain ⟨c, rfl, k⟩ := h
    refine ⟨_, (pss_one (ps_ret (pe_lst (pa_cons (pe_callB (call_max2 rfl) (by rfl) T.b_max (by decide +kernel) (pa_cons pe_int (pa_cons (pe_op op_sub (pv 0) (pe_op op_pow pe_int pe_int)) pa_nil))) (pa_cons (pe_op op_mod (pv 0) pe_int) (pa_cons pe_int pa_nil)))))), ?_⟩
    refine ⟨_, rfl, _, _, rfl, rfl, ⟨by decide, by decide, by decide⟩, _, _, rfl, rfl, _, _, rfl, _, rfl, _, _, rfl, rfl, (show (0 : Int) < 2147483629 by decide), (by show 3 ≤ sizeLine; decide), fun p hp => ?_⟩
    exact k p _ (AT.Same.up hp) hp ⟨_, _, _, upd_same, by split <;> omega, Int.emod_nonneg _ (by decide), Int.emod_lt_of_pos _ (by decide), by decide, by decide⟩
def spTake : Sp := fun vs H Q _ => ∃ (p : Addr) (many : Int) (n : Nat), vs = [.ref p, .int many] ∧ BoxAt H p n ∧ n ≤ 100000 ∧ 0 < many ∧ many.natAbs < 2 ^ 1000 ∧ ∀ (r : Int) H', 0 ≤ r → r < many → SameX p H H' → BoxAt H' p (n + 1) → Q (.int r) H'
theorem sc_w_take : FnScope ["_law_box_here", "_law_many", "_law_digit", "_law_mixed"] ["_law_box_here", "_law_many"] (defScope s_w_take) := ⟨rfl, rfl, rfl, by decide +kernel, rfl, by decide +kernel, by decide +kernel⟩
theorem ok_w_take (T : Tx K mg base) : Ok P w K mg base 1 (d_w_take.loc K) ["_law_box_here", "_law_many"] spTake := by
  refine mk_ok (k := 0) T.f_w_take sc_w_take (fun _ _ _ _ _ _ us hl => match us, hl with | [_, _], _ => rfl) (fun vs H Q E h => ?_) (fun cdv A outer s H vs Q E hr h => ?_)
  · obtain ⟨p, many, n, rfl, _⟩ := h
    rfl
  · obtain ⟨p, many, n, rfl, ⟨a, b, c, hp, ha, hb, hb2, hc, hcn⟩, hn, hm, hmb, k⟩ := h
    refine ⟨_, (pss_cons (ps_if (pt_cmpR op_gt (pe_ix ix_list (pv 0) pe_int (fun _ _ => rfl)) pe_int (nomark _)) (pss_cons (ps_set (i := 2) sc_w_take.nd rfl (Or.inl rfl) (pe_op op_mod (pe_ix ix_list (pv 0) pe_int (fun _ _ => rfl)) (pv 1)))
      (pss_cons (ps_asg (pe_op op_fdivW (pe_ix ix_list (pv 0) pe_int (fun _ _ => rfl)) (pv 1)) (pg_sub (pv 0) pe_int set_list))
      (pss_one (ps_ret (pv 2))))) pss_nil)
      (pss_cons (ps_asg (pe_op op_add (pe_ix ix_list (pv 0) pe_int (fun _ _ => rfl)) pe_int) (pg_sub (pv 0) pe_int set_list))
      (pss_cons (ps_set (i := 3) sc_w_take.nd rfl (Or.inl rfl) (pe_op op_mod (pe_op op_pow (pe_op op_add (pe_op op_add (pe_ix ix_list (pv 0) pe_int (fun _ _ => rfl)) (pe_op op_mulW pe_int (pe_ix ix_list (pv 0) pe_int (fun _ _ => rfl)))) pe_int) pe_int) pe_int))
      (pss_cons (ps_set (i := 3) sc_w_take.nd rfl (Or.inl rfl) (pe_op op_mod (pe_op op_pow (pe_op op_add (pv 3) (pe_op op_mulW pe_int (pe_ix ix_list (pv 0) pe_int (fun _ _ => rfl)))) pe_int) pe_int))
      (pss_one (ps_ret (pe_op op_mod (pe_op op_fdivW (pv 3) pe_int) (pv 1)))))))), ?_⟩
    have sx : ∀ o, SameX p H (upd H p o) := fun o x u hx e => by rw [upd_ne hx]; exact e
    refine ⟨_, rfl, p, _, 0, _, rfl, rfl, SqL.of hp, rfl, _, _, rfl, rfl, _, rfl, ?_⟩
    refine ite2 (fun h1 => ?_) (fun h1 => ?_)
    · have h1' : 0 < a := of_decide_eq_true h1
      refine ⟨_, rfl, p, _, 0, _, rfl, rfl, SqL.of hp, rfl, _, rfl, _, _, rfl, rfl, hm, ?_⟩
      refine ⟨_, rfl, p, _, 0, _, rfl, rfl, SqL.of hp, rfl, _, rfl, _, _, rfl, rfl, wide_div hm hmb (by decide) (by decide), _, rfl, p, _, 0, 0, rfl, rfl, hp, rfl, ?_⟩
      refine ⟨_, rfl, k _ _ (Int.emod_nonneg _ (by omega)) (Int.emod_lt_of_pos _ hm) (sx _) ⟨a / many, b, c, upd_same, Int.ediv_nonneg ha (by omega), hb, hb2, hc, by omega⟩⟩
    · refine ⟨_, rfl, p, _, 2, _, rfl, rfl, SqL.of hp, rfl, _, _, rfl, rfl, _, rfl, p, _, 2, 2, rfl, rfl, hp, rfl, ?_⟩
      have hp2 : upd H p (.lst [.int a, .int b, .int (c + 1)]) p = some (.lst [.int a, .int b, .int (c + 1)]) := upd_same
      refine ⟨_, rfl, p, _, 1, _, rfl, rfl, SqL.of hp2, rfl, _, rfl, p, _, 2, _, rfl, rfl, SqL.of hp2, rfl, _, _, rfl, rfl, wide_mul (a := 64) (b := 64) (by decide) (by omega) (by decide) (by decide) (by decide), _, _, rfl, rfl, _, _, rfl, rfl, _, _, rfl, rfl, ⟨by decide, by decide, by omega⟩, _, _, rfl, rfl, (show (0 : Int) < 2147483647 by decide), ?_⟩
      generalize hx : ((b + 15489001 * (c + 1) + 1549) ^ (5 : Int).toNat) % 2147483647 = x
      have hx1 : 0 ≤ x := hx ▸ Int.emod_nonneg _ (by decide)
      have hx2 : x < 2147483647 := hx ▸ Int.emod_lt_of_pos _ (by decide)
      refine ⟨_, rfl, _, rfl, p, _, 2, _, rfl, rfl, SqL.of hp2, rfl, _, _, rfl, rfl, wide_mul (a := 64) (b := 64) (by decide) (by omega) (by decide) (by decide) (by decide), _, _, rfl, rfl, _, _, rfl, rfl, ⟨by decide, by decide, by omega⟩, _, _, rfl, rfl, (show (0 : Int) < 2147483587 by decide), ?_⟩
      generalize ((x + 104711 * (c + 1)) ^ (3 : Int).toNat) % 2147483587 = y
      refine ⟨_, rfl, _, _, rfl, rfl, wide_div (b := 10) (by decide) (by decide) (by decide) (by decide), _, rfl, _, _, rfl, rfl, hm, ?_⟩
      exact k _ _ (Int.emod_nonneg _ (by omega)) (Int.emod_lt_of_pos _ hm) (sx _) ⟨a, b, c + 1, upd_same, ha, hb, hb2, by omega, by omega⟩
end
end K03

set_option maxHeartbeats 4000000
namespace K03
open PySem PySem.Spec PyProof.Rows L2 AT
/-! ### more of texts and amounts -/
structure Gd (n : Nat) (z : Str) : Prop where
  ok : ∀ c ∈ z.cps.toList, c < 1114112
  len : z.length ≤ n
theorem Gd.good {n : Nat} {z : Str} (g : Gd n z) (h : n ≤ 600 := by omega) : Good z := ⟨g.ok, Nat.le_trans g.len h⟩
theorem Gd.mono {n m : Nat} {z : Str} (g : Gd n z) (h : n ≤ m) : Gd m z := ⟨g.ok, Nat.le_trans g.len h⟩
theorem char_lt (c : Char) : c.toNat < 1114112 := by
  have h := c.valid
  simp only [UInt32.isValidChar, Nat.isValidChar] at h
  show c.val.toNat < 1114112
  omega
theorem gd_string (s : String) : Gd s.length (Str.ofString s) := by
  refine ⟨fun c hc => ?_, Nat.le_of_eq (PySem.ofString_length s)⟩
  rw [signs_ofString] at hc
  obtain ⟨d, _, rfl⟩ := List.mem_map.mp hc
  exact char_lt d
theorem gd_app {n m : Nat} {x y : Str} (g : Gd n x) (h : Gd m y) : Gd (n + m) (x ++ y) := by
  refine ⟨fun c hc => ?_, by rw [len_app]; exact Nat.add_le_add g.len h.len⟩
  have e : (x ++ y).cps.toList = x.cps.toList ++ y.cps.toList := by
    show (x.cps ++ y.cps).toList = _
    rw [Array.toList_append]
  rw [e] at hc
  exact (List.mem_append.mp hc).elim (g.ok c) (h.ok c)
theorem gd_int {a : Int} {k : Nat} (hk : 0 < k) (h : a.natAbs < 10 ^ k) : Gd (k + 1) (Str.ofString (toString a)) := (gd_string _).mono (int_text_length_le10 hk h)
theorem gd_cut {n : Nat} {z : Str} (g : Gd n z) (lo hi : Option Int) : Gd n (cutS z lo hi) := by
  refine ⟨fun c hc => g.ok c (List.mem_of_mem_drop (List.mem_of_mem_take hc)), ?_⟩
  have h1 := len_list (cutS z lo hi)
  have h2 := len_list z
  have h3 := g.len
  have e : (cutS z lo hi).cps.toList = (z.cps.toList.drop (HT.sIx z.length 0 lo)).take (HT.sIx z.length z.length hi - HT.sIx z.length 0 lo) := rfl
  rw [← h1, e, List.length_take, List.length_drop]
  omega
theorem cut_len {z : Str} {k : Nat} (h : k ≤ z.length) : (cutS z none (some (k : Int))).length = k ∧ (cutS z (some (k : Int)) none).length = z.length - k := by
  constructor
  · rw [← len_list]
    show ((z.cps.toList.drop 0).take (HT.sIx z.length z.length (some (k : Int)) - 0)).length = _
    rw [HT.sIx_nat, List.drop_zero, List.length_take, len_list]
    omega
  · rw [← len_list]
    show ((z.cps.toList.drop (HT.sIx z.length 0 (some (k : Int)))).take (z.length - HT.sIx z.length 0 (some (k : Int)))).length = _
    rw [HT.sIx_nat, List.length_take, List.length_drop, len_list]
    omega
theorem gd_sign (c : Nat) (h : c < 1114112) : Gd 1 ⟨#[c]⟩ := ⟨fun d hd => by
  have : d = c := by simpa using hd
  omega, Nat.le_refl _⟩
theorem gd_line {t b : Int} (ht : t.natAbs < 10 ^ 10) (hb : b.natAbs < 10 ^ 10) : Gd 30 (lineS t b) := by
  unfold lineS
  split
  · exact (gd_app (gd_int (by decide) ht) (gd_string "")).mono (by decide)
  · exact (gd_app (gd_int (by decide) ht) (gd_app (gd_string "/") (gd_int (by decide) hb))).mono (by decide)
theorem fac_dvd (t b : Int) : fac t b ∣ t ∧ fac t b ∣ b := by
  unfold fac
  split
  · exact ⟨Int.neg_dvd.mpr (Int.gcd_dvd_left ..), Int.neg_dvd.mpr (Int.gcd_dvd_right ..)⟩
  · exact ⟨Int.gcd_dvd_left .., Int.gcd_dvd_right ..⟩
theorem fac_ne {t b : Int} (h : b ≠ 0) : fac t b ≠ 0 := by
  have := gcd_pos (t := t) h
  unfold fac
  split <;> omega
theorem fdiv_le {x f : Int} (hf : f ≠ 0) (h : f ∣ x) : (x.fdiv f).natAbs ≤ x.natAbs := by
  obtain ⟨y, rfl⟩ := h
  rw [Int.mul_fdiv_cancel_left _ hf, Int.natAbs_mul]
  exact Nat.le_mul_of_pos_left _ (Int.natAbs_pos.mpr hf)
theorem low_le {t b : Int} (h : b ≠ 0) : (lowT t b).natAbs ≤ t.natAbs ∧ (lowB t b).natAbs ≤ b.natAbs := ⟨fdiv_le (fac_ne h) (fac_dvd t b).1, fdiv_le (fac_ne h) (fac_dvd t b).2⟩
theorem IsAmt.inj {K : PySem.W.Frag} {H : Hp} {p : Addr} {n d n' d' : Int} (h : IsAmt K H p n d) (h' : IsAmt K H p n' d') : n' = n ∧ d' = d := by
  obtain ⟨dx, e⟩ := h
  obtain ⟨dx', e'⟩ := h'
  rw [e] at e'
  simp only [Option.some.injEq, HO.ins.injEq, amtF, List.cons.injEq, Prod.mk.injEq, V.int.injEq, and_true, true_and] at e'
  exact ⟨e'.2.1.symm, e'.2.2.symm⟩
theorem Amt.inj {K : PySem.W.Frag} {H : Hp} {v : V} {n d n' d' : Int} (h : Amt K H v n d) (h' : Amt K H v n' d') : n' = n ∧ d' = d := by
  cases h with
  | obj h1 =>
    cases h' with
    | obj h2 => exact h1.inj h2
  | int i =>
    cases h'
    exact ⟨rfl, rfl⟩
/-! amount_text of what is an amount: the three parts of its promise -/
theorem tx_b {K : PySem.W.Frag} {H : Hp} {v : V} {n d : Int} (h : Amt K H v n d) (hn : n.natAbs < 2 ^ 1000) (hd : d.natAbs < 2 ^ 1000) : ∀ n' d', Amt K H v n' d' → n'.natAbs < 2 ^ 1000 ∧ d'.natAbs < 2 ^ 1000 := fun n' d' h' => by
  obtain ⟨rfl, rfl⟩ := h.inj h'
  exact ⟨hn, hd⟩
theorem tx_k {K : PySem.W.Frag} {H : Hp} {v : V} {n d : Int} {Q : VK} (h : Amt K H v n d) (k : ∀ H', Same H H' → Q (.str (amtText n d)) H') : ∀ n' d' H', Amt K H v n' d' → Same H H' → Q (.str (amtText n' d')) H' := fun n' d' H' h' sm => by
  obtain ⟨rfl, rfl⟩ := h.inj h'
  exact k H' sm
theorem tx_n {K : PySem.W.Frag} {H : Hp} {v : V} {n d : Int} {R : Prop} (h : Amt K H v n d) : NoAmt K H v → R := fun hno => absurd h (hno.2 n d)
theorem at_ex {α : Type} {l : List α} {r : Int} (h0 : 0 ≤ r) (h1 : r < (l.length : Int)) : ∃ c, c ∈ l ∧ atI l r = some c := by
  obtain ⟨k, rfl⟩ := Int.eq_ofNat_of_zero_le h0
  have hk : k < l.length := by omega
  exact ⟨l[k], List.getElem_mem hk, atI_nat (List.getElem?_eq_getElem hk)⟩
/-! Amount(n, d): what its making leaves -/
theorem md_b {d : Int} (h : d.natAbs < 2 ^ 8000) : ∀ e, V.int d = .int e → e.natAbs < 2 ^ 8000 := fun e q => by cases q; exact h
theorem md_0 {d : Int} {R : Prop} (h : d ≠ 0) : badB (.int d) = true → R := fun e => by simp [badB, h] at e
theorem md_s {H : Hp} {x dx : Addr} {o1 o2 : HO} (hx : H x = none) (hdx : H dx = none) : Same H (upd (upd (upd H dx (.own x)) x o1) x o2) := AT.Same.new (AT.Same.new (AT.Same.up hdx) hx) hx
/-! ### drawing -/
theorem take_at {H : Hp} {p : Addr} {many : Int} {n : Nat} {Q : VK} {E : XK} (hb : BoxAt H p n) (hn : n ≤ 100000) (hm : 0 < many) (hmb : many.natAbs < 2 ^ 1000) (k : ∀ (r : Int) H', 0 ≤ r → r < many → SameX p H H' → BoxAt H' p (n + 1) → Q (.int r) H') : spTake [.ref p, .int many] H Q E :=
  ⟨p, many, n, rfl, hb, hn, hm, hmb, k⟩
/-- what is new is not the box -/
theorem box_ne {H : Hp} {p q : Addr} {n : Nat} (hb : BoxAt H p n) (hq : H q = none) : q ≠ p := by
  obtain ⟨a, b, c, e, _⟩ := hb
  rintro rfl
  rw [hq] at e
  cases e
end K03

set_option maxHeartbeats 4000000
namespace K03
open PySem PySem.Spec PyProof.Rows L2 AT
section
variable {P : Program} {w : World} {K : PySem.W.Frag} {mg : Str → Option Value} {base : Heap}
theorem pick3 {r : Int} (h0 : 0 ≤ r) (h1 : r < 3) : ∃ v : Int, atI [V.int 9, V.int 1000, V.int ((10 : Int) ^ (20 : Int).toNat)] r = some (.int v) ∧ 0 < v ∧ v ≤ 100000000000000000000 := by
  obtain rfl | rfl | rfl : r = 0 ∨ r = 1 ∨ r = 2 := by omega
  · exact ⟨9, rfl, by decide, by decide⟩
  · exact ⟨1000, rfl, by decide, by decide⟩
  · exact ⟨_, rfl, by decide, by decide⟩
theorem pick2 {r : Int} (h0 : 0 ≤ r) (h1 : r < 2) : ∃ v : Int, atI [V.int 1, V.int (0 - 1)] r = some (.int v) ∧ v.natAbs = 1 := by
  obtain rfl | rfl : r = 0 ∨ r = 1 := by omega
  · exact ⟨1, rfl, rfl⟩
  · exact ⟨-1, rfl, rfl⟩
theorem pickw {r : Int} (h0 : 0 ≤ r) (h1 : r < 2) : ∃ v : Int, atI [V.int 12, V.int 1000] r = some (.int v) ∧ 0 < v ∧ v ≤ 1000 := by
  obtain rfl | rfl : r = 0 ∨ r = 1 := by omega
  · exact ⟨12, rfl, by decide, by decide⟩
  · exact ⟨1000, rfl, by decide, by decide⟩
theorem big {x : Int} (h : x.natAbs ≤ 1000000000000000000000000000000) : x.natAbs < 2 ^ 1000 := Nat.lt_of_le_of_lt h (by decide +kernel)
theorem pow29 : ((10 : Int) ^ (29 : Int).toNat) = 100000000000000000000000000000 := by decide
theorem pow28 : ((10 : Int) ^ (28 : Int).toNat) = 10000000000000000000000000000 := by decide
theorem pow6 : ((10 : Int) ^ (6 : Int).toNat) = 1000000 := by decide
def spLines : Sp := fun vs H Q _ => ∃ (p : Addr) (n : Nat), vs = [.ref p] ∧ BoxAt H p n ∧ n ≤ 1000 ∧ ∀ H', SameX p H H' → BoxAt H' p (n + 20) → Q (.bl true) H'
theorem sc_w_lines_right : FnScope ["_law_box_here", "_law_top", "_law_bottom", "_law_low", "_law_sign", "_law_wide", "_law_line_here", "_law_lap", "_law_due", "_law_found", "_law_at"] ["_law_box_here"] (defScope s_w_lines_right) := ⟨rfl, rfl, rfl, by decide +kernel, rfl, by decide +kernel, by decide +kernel⟩
theorem ok_w_lines_right (T : Tx K mg base) : Ok P w K mg base 7 (d_w_lines_right.loc K) ["_law_box_here"] spLines := by
  refine mk_ok (k := 6) T.f_w_lines_right sc_w_lines_right (fun _ _ _ _ _ _ us hl => match us, hl with | [_], _ => rfl) (fun vs H Q E h => ?_) (fun cdv A outer s H vs Q E hr h => ?_)
  · obtain ⟨p, n, rfl, _⟩ := h
    rfl
  · obtain ⟨p, n, rfl, hb, hn, k⟩ := h
    refine ⟨_, (pss_cons (ps_par (by rfl) sc_w_lines_right.nd (i := 1) (j := 2) rfl rfl (by decide) rfl rfl (pa_cons (pe_op op_sub (ok_call (ok_w_take T) (hr.mono (by decide)) rfl T.g_w_take passL (pa_cons (pv 0) (pa_cons (pe_op op_pow pe_int pe_int) pa_nil))) (pe_op op_pow pe_int pe_int)) (pa_cons (pe_op op_add pe_int (ok_call (ok_w_take T) (hr.mono (by decide)) rfl T.g_w_take passL (pa_cons (pv 0) (pa_cons (pe_ix ix_list (pe_lst (pa_cons pe_int (pa_cons pe_int (pa_cons (pe_op op_pow pe_int pe_int) pa_nil)))) (ok_call (ok_w_take T) (hr.mono (by decide)) rfl T.g_w_take passL (pa_cons (pv 0) (pa_cons pe_int pa_nil))) (fun _ _ => rfl)) pa_nil)))) pa_nil)) (by rfl))
      (pss_cons (ps_set (i := 3) sc_w_lines_right.nd rfl (Or.inl rfl) (ok_call (ok_w_lowest T) (hr.mono (by decide)) rfl T.g_w_lowest passL (pa_cons (pv 1) (pa_cons (pv 2) pa_nil))))
      (pss_cons (ps_if (PW.pt (pw_or (pt_cmpR op_ne (ok_call (ok_amount_text T) (hr.mono (by decide)) rfl T.g_amount_text (passE rfl rfl rfl rfl) (pa_cons (ok_make T.mkr_Amount (ok_Amount_init_ T) (hr.mono (by decide)) rfl T.g_Amount (passE rfl rfl rfl rfl) (pa_cons (pv 1) (pa_cons (pv 2) pa_nil))) pa_nil)) (ok_call (ok_w_line T) (hr.mono (by decide)) rfl T.g_w_line passL (pa_cons (pe_ix ix_tup (pv 3) pe_int (fun _ _ => rfl)) (pa_cons (pe_ix ix_tup (pv 3) pe_int (fun _ _ => rfl)) pa_nil))) (nomark _)) (pw_or1 (pt_cmpR op_ne (ok_call (ok_amount_text T) (hr.mono (by decide)) rfl T.g_amount_text (passE rfl rfl rfl rfl) (pa_cons (pv 1) pa_nil)) (pe_callTy call_str_int (by rfl) T.b_str (by decide +kernel) (pa_cons (pv 1) pa_nil)) (nomark _))))) (pss_one (ps_ret pe_bl)) pss_nil)
      (pss_cons (ps_par (by rfl) sc_w_lines_right.nd (i := 4) (j := 5) rfl rfl (by decide) rfl rfl (pa_cons (pe_ix ix_list (pe_lst (pa_cons pe_int (pa_cons (pe_op op_sub pe_int pe_int) pa_nil))) (ok_call (ok_w_take T) (hr.mono (by decide)) rfl T.g_w_take passL (pa_cons (pv 0) (pa_cons pe_int pa_nil))) (fun _ _ => rfl)) (pa_cons (pe_ix ix_list (pe_lst (pa_cons pe_int (pa_cons pe_int pa_nil))) (ok_call (ok_w_take T) (hr.mono (by decide)) rfl T.g_w_take passL (pa_cons (pv 0) (pa_cons pe_int pa_nil))) (fun _ _ => rfl)) pa_nil)) (by rfl))
      (pss_cons (ps_set (i := 6) sc_w_lines_right.nd rfl (Or.inl rfl) (ok_call (ok_w_line T) (hr.mono (by decide)) rfl T.g_w_line passL (pa_cons (pe_op op_mulW (ok_call (ok_w_take T) (hr.mono (by decide)) rfl T.g_w_take passL (pa_cons (pv 0) (pa_cons (pe_op op_pow pe_int pe_int) pa_nil))) (pv 4)) (pa_cons (pe_op op_add pe_int (ok_call (ok_w_take T) (hr.mono (by decide)) rfl T.g_w_take passL (pa_cons (pv 0) (pa_cons (pv 5) pa_nil)))) pa_nil))))
      (pss_cons (ps_for (passes_of rfl) rfl (pi_range1 (by rfl) T.b_range (pa_cons pe_int pa_nil)) (pg_name (i := 7) sc_w_lines_right.nd rfl (Or.inl rfl)) (Evl.pss_cut (ps_par (by rfl) sc_w_lines_right.nd (i := 8) (j := 9) rfl rfl (by decide) rfl rfl (pa_cons (ok_call (ok_w_read T) (hr.mono (by decide)) rfl T.g_w_read passL (pa_cons (pv 6) pa_nil)) (pa_cons (ok_call (ok_amount_of T) (hr.mono (by decide)) rfl T.g_amount_of passL (pa_cons (pv 6) pa_nil)) pa_nil)) (by rfl))
      (Evl.pss_cut (ps_if (pt_cmpR op_ne (pe_cmpR op_isN (pv 9) pe_non (nomark _)) (pe_cmpR op_isN (pv 8) pe_non (nomark _)) (nomark _)) (pss_one (ps_ret pe_bl)) pss_nil)
      (Evl.pss_cut (ps_if (PW.pt (pw_and (pt_cmpR op_notN (pv 8) pe_non (nomark _)) (pw_and1 (pt_cmpR (op_neD hr.units) (pe_tup (pa_cons (ok_prop T.cls_Amount T.pr_Amount_top (ok_Amount_top T) (hr.mono (by decide)) (pv 9)) (pa_cons (ok_prop T.cls_Amount T.pr_Amount_bottom (ok_Amount_bottom T) (hr.mono (by decide)) (pv 9)) pa_nil))) (pv 8) (nomark _))))) (pss_one (ps_ret pe_bl)) pss_nil)
      (pss_cons (ps_par (by rfl) sc_w_lines_right.nd (i := 10) (j := 4) rfl rfl (by decide) rfl rfl (pa_cons (ok_call (ok_w_take T) (hr.mono (by decide)) rfl T.g_w_take passL (pa_cons (pv 0) (pa_cons (pe_op op_add (pe_callB call_len_str (by rfl) T.b_len (by decide +kernel) (pa_cons (pv 6) pa_nil)) pe_int) pa_nil))) (pa_cons (pe_ix ix_str pe_str (ok_call (ok_w_take T) (hr.mono (by decide)) rfl T.g_w_take passL (pa_cons (pv 0) (pa_cons pe_int pa_nil))) (fun _ _ => rfl)) pa_nil)) (by rfl))
      (pss_one (ps_set (i := 6) sc_w_lines_right.nd rfl (Or.inl rfl) (pe_ix ix_list (pe_lst (pa_cons (pe_op op_add_str (pe_op op_add_str (pe_slice sl_str (pv 6) po_none (po_some (pv 10))) (pv 4)) (pe_slice sl_str (pv 6) (po_some (pv 10)) po_none)) (pa_cons (pe_op op_add_str (pe_slice sl_str (pv 6) po_none (po_some (pv 10))) (pe_slice sl_str (pv 6) (po_some (pe_op op_add (pv 10) pe_int)) po_none)) (pa_cons (pe_op op_add_str (pe_op op_add_str (pe_slice sl_str (pv 6) po_none (po_some (pv 10))) (pv 4)) (pe_slice sl_str (pv 6) (po_some (pe_op op_add (pv 10) pe_int)) po_none)) pa_nil)))) (pv 7) (fun _ _ => rfl)))))))))
      (pss_one (ps_ret pe_bl)))))))), ?_⟩
    -- top, bottom
    refine ⟨_, rfl, _, _, rfl, rfl, ⟨by decide, by decide, by decide⟩, p, _, _, rfl, hb, (by omega), (by decide), (by decide +kernel), fun r1 H1 a1 a2 x1 b1 => ?_⟩
    rw [pow29] at a2
    refine ⟨_, _, rfl, rfl, ⟨by decide, by decide, by decide⟩, _, _, rfl, rfl, ?_⟩
    refine ⟨_, rfl, _, _, rfl, rfl, ⟨by decide, by decide, by decide⟩, (by show 3 ≤ sizeLine; decide), fun q1 hq1 => ?_⟩
    refine ⟨_, rfl, p, _, _, rfl, (b1.up (AT.Same.up hq1)), (by omega), (by decide), (by decide +kernel), fun r2 H2 c1 c2 x2 b2 => ?_⟩
    obtain ⟨v2, e2, f2, g2⟩ := pick3 c1 c2
    refine ⟨q1, _, r2, _, rfl, rfl, SqL.of (x2 _ _ (box_ne b1 hq1) upd_same), e2, p, _, _, rfl, b2, (by omega), f2, (big (by omega)), fun r3 H3 d1 d2 x3 b3 => ?_⟩
    refine ⟨_, _, rfl, rfl, _, _, rfl, ?_⟩
    rw [pow28]
    dsimp only
    generalize htop : r1 - 10000000000000000000000000000 = tp
    generalize hbot : 1 + r3 = bot
    have ht : tp.natAbs ≤ 1000000000000000000000000000000 := by omega
    have hbb : bot.natAbs ≤ 1000000000000000000000000000000 := by omega
    have hb0 : bot ≠ 0 := by omega
    have sx3 : SameX p H H3 := by
      refine x1.trans (SameX.trans ?_ (x2.trans x3))
      exact sameX_of (AT.Same.up hq1)
    -- low
    refine ⟨_, rfl, _, rfl, tp, bot, rfl, hb0, Nat.lt_of_lt_of_le (big hbb) (Nat.pow_le_pow_right (by decide) (by decide)), fun q4 H4 s4 hq4 hl4 => ?_⟩
    have lw := low_le (t := tp) hb0
    -- amount_text(Amount(tp, bottom)) != line(low[0], low[1])
    refine ⟨_, rfl, _, rfl, fun x dx hx hdx hne => ?_⟩
    refine ⟨x, dx, _, _, rfl, upd_same, .int tp, .int bot, md_b (Nat.lt_of_lt_of_le (big hbb) (Nat.pow_le_pow_right (by decide) (by decide))), (fun e => nomatch e), (fun _ => md_0 hb0), ?_⟩
    rintro _ _ ⟨⟩ ⟨⟩ _
    refine ⟨rfl, ?_⟩
    have s5 : Same H4 (upd (upd (upd H4 dx (.own x)) x (.ins (cA K) dx [])) x (.ins (cA K) dx (amtF (lowT tp bot) (lowB tp bot)))) := md_s hx hdx
    have hA5 : IsAmt K (upd (upd (upd H4 dx (.own x)) x (.ins (cA K) dx [])) x (.ins (cA K) dx (amtF (lowT tp bot) (lowB tp bot)))) x (lowT tp bot) (lowB tp bot) := ⟨dx, upd_same⟩
    refine ⟨.ref x, rfl, .amt hA5, tx_b (.obj hA5) (big (by omega)) (big (by omega)), fun n' d' H6 h' s6 => ?_, tx_n (.obj hA5)⟩
    have ei := (Amt.obj hA5).inj h'
    rw [ei.1, ei.2]
    have hl6 := s6 _ _ (s5 _ _ hl4)
    refine ⟨_, rfl, q4, _, 0, _, rfl, rfl, SqT.of hl6, rfl, _, rfl, q4, _, 1, _, rfl, rfl, SqT.of hl6, rfl, _, _, rfl, big (by omega), big (by omega), ?_⟩
    refine ⟨rfl, _, rfl, ?_⟩
    rw [line_eq, decide_eq_true rfl]
    refine iteF ⟨_, rfl, .int tp, rfl, .int tp, tx_b (.int tp) (big ht) (by decide +kernel), fun n' d' H7 h' s7 => ?_, tx_n (Amt.int (H := H6) (K := K) tp)⟩
    have ei := (Amt.int (H := H6) (K := K) tp).inj h'
    rw [ei.1, ei.2]
    refine ⟨_, rfl, tp, rfl, Nat.lt_trans (log_lt (by decide) (big ht)) (by decide), rfl, _, rfl, ?_⟩
    rw [show amtText tp 1 = toString tp from if_pos rfl, decide_eq_true rfl]
    refine iteF ?_
    have b7 : BoxAt H7 p (n + 3) := ((((b3.up s4).up s5).up s6).up s7)
    have sx7 : SameX p H H7 := sx3.trans (sameX_of (((s4.trans s5).trans s6).trans s7))
    -- sign, wide
    refine ⟨_, _, rfl, rfl, (by show 2 ≤ sizeLine; decide), fun q8 hq8 => ?_⟩
    refine ⟨_, rfl, p, _, _, rfl, (b7.up (AT.Same.up hq8)), (by omega), (by decide), (by decide +kernel), fun r8 H8 i1 i2 x8 b8 => ?_⟩
    obtain ⟨sg, e8, f8⟩ := pick2 i1 i2
    refine ⟨q8, _, r8, _, rfl, rfl, SqL.of (x8 _ _ (box_ne b7 hq8) upd_same), e8, ?_⟩
    refine ⟨(by show 2 ≤ sizeLine; decide), fun q9 hq9 => ?_⟩
    refine ⟨_, rfl, p, _, _, rfl, (b8.up (AT.Same.up hq9)), (by omega), (by decide), (by decide +kernel), fun r9 H9 j1 j2 x9 b9 => ?_⟩
    obtain ⟨wd, e9, f9, g9⟩ := pickw j1 j2
    refine ⟨q9, _, r9, _, rfl, rfl, SqL.of (x9 _ _ (box_ne b8 hq9) upd_same), e9, _, _, rfl, ?_⟩
    have sx9 : SameX p H H9 := ((sx7.trans (sameX_of (AT.Same.up hq8))).trans x8).trans ((sameX_of (AT.Same.up hq9)).trans x9)
    -- line_here
    refine ⟨_, rfl, _, _, rfl, rfl, ⟨by decide, by decide, by decide⟩, p, _, _, rfl, b9, (by omega), (by decide), (by decide +kernel), fun ra Ha k1 k2 xa ba => ?_⟩
    rw [pow6] at k2
    refine ⟨_, rfl, _, _, rfl, rfl, wide_mul (a := 64) (b := 64) (by omega) (by omega) (by decide) (by decide) (by decide), ?_⟩
    refine ⟨_, rfl, _, rfl, p, _, _, rfl, ba, (by omega), f9, (big (by omega)), fun rb Hb l1 l2 xb bb => ?_⟩
    refine ⟨_, _, rfl, rfl, _, _, rfl, big ?_, big (by omega), ?_⟩
    · rw [Int.natAbs_mul]
      rw [f8]
      omega
    have gz : Gd 30 (lineS (ra * sg) (1 + rb)) := gd_line (by rw [Int.natAbs_mul, f8]; omega) (by omega)
    dsimp only
    generalize lineS (ra * sg) (1 + rb) = z0 at gz ⊢
    have sxb : SameX p H Hb := (sx9.trans xa).trans xb
    refine ⟨3, rfl, by decide, by decide, for_range (lo := 0) (n := 3) (fun i σ' H' => ∃ (z : Str) (sv : V) (o7 o8 o9 oa : Option V), σ' = ([some (.ref p), some (.int tp), some (.int bot), some (.ref q4), some sv, some (.int wd), some (.str z), o7, o8, o9, oa] : L2.St) ∧
      Gd (40 * 3 ^ i) z ∧ BoxAt H' p (n + 7 + 2 * i) ∧ SameX p H H') ⟨z0, _, _, _, _, _, rfl, gz.mono (by decide), bb, sxb⟩ ?_ ?_⟩
    · rintro i σ' H' hi ⟨z, sv, o7, o8, o9, oa, rfl, gi, bi, si⟩
      have hp3 : 40 * 3 ^ i ≤ 360 := by
        have : i = 0 ∨ i = 1 ∨ i = 2 := by omega
        rcases this with rfl | rfl | rfl <;> decide
      have g : Good z := gi.good (by omega)
      have len : z.length ≤ 360 := Nat.le_trans gi.len hp3
      -- due, found
      refine ⟨fun σ2 H2 => ∃ v8 v9 : V, σ2 = ([some (.ref p), some (.int tp), some (.int bot), some (.ref q4), some sv, some (.int wd), some (.str z), some (.int (0 + i)), some v8, some v9, oa] : L2.St) ∧ Same H' H2 ∧
        ((v8 = .non ∧ v9 = .non) ∨ ∃ (x y : Int) (q a : Addr), v8 = .ref q ∧ v9 = .ref a ∧ H2 q = some (.tup [.int x, .int y]) ∧ IsAmt K H2 a x y), ?_, ?_⟩
      · refine ⟨_, rfl, z, rfl, g, fun H1 s1 e1 => ?_, fun t u q H1 e1 s1 hq hl => ?_⟩
        · refine ⟨_, rfl, .str z, rfl, .str z, (fun z' q => by cases q; exact g), fun H2 s2 e2 => ?_, fun t u a H2 e2 s2 ha hA => ?_⟩
          · exact ⟨_, _, rfl, .non, .non, rfl, s1.trans s2, .inl ⟨rfl, rfl⟩⟩
          · rw [e1] at e2
            cases e2
        · refine ⟨_, rfl, .str z, rfl, .str z, (fun z' q => by cases q; exact g), fun H2 s2 e2 => ?_, fun t2 u2 a H2 e2 s2 ha hA => ?_⟩
          · rw [e1] at e2
            cases e2
          · rw [e1] at e2
            cases e2
            exact ⟨_, _, rfl, .ref q, .ref a, rfl, s1.trans s2, .inr ⟨_, _, q, a, rfl, rfl, s2 _ _ hl, hA⟩⟩
      · rintro σ2 H2 ⟨v8, v9, rfl, s2, hc⟩
        refine ⟨fun σ3 H3 => σ3 = ([some (.ref p), some (.int tp), some (.int bot), some (.ref q4), some sv, some (.int wd), some (.str z), some (.int (0 + i)), some v8, some v9, oa] : L2.St) ∧ H2 = H3, ?_, ?_⟩
        · rcases hc with ⟨rfl, rfl⟩ | ⟨x, y, q, a, rfl, rfl, hq, hA⟩
          · exact ⟨_, rfl, rfl, _, rfl, rfl, rfl, _, rfl, rfl, rfl⟩
          · exact ⟨_, rfl, rfl, _, rfl, rfl, rfl, _, rfl, rfl, rfl⟩
        · rintro _ _ ⟨rfl, rfl⟩
          refine ⟨fun σ3 H4 => σ3 = ([some (.ref p), some (.int tp), some (.int bot), some (.ref q4), some sv, some (.int wd), some (.str z), some (.int (0 + i)), some v8, some v9, oa] : L2.St) ∧ Same H2 H4, ?_, ?_⟩
          · rcases hc with ⟨rfl, rfl⟩ | ⟨x, y, q, a, rfl, rfl, hq, hA⟩
            · exact ⟨_, rfl, rfl, _, rfl, iteF (iteF ⟨rfl, Same.refl _⟩)⟩
            · obtain ⟨da, hda⟩ := id hA
              refine ⟨_, rfl, rfl, _, rfl, iteT ⟨_, rfl, a, da, _, rfl, hda, a, x, y, rfl, hA, _, rfl, a, da, _, rfl, hda, a, x, y, rfl, hA, (by show 2 ≤ sizeLine; decide), fun T1 hT1 => ?_⟩⟩
              have hq1 : upd H2 T1 (.tup [.int x, .int y]) q = some (.tup [.int x, .int y]) := by rw [upd_ne (ne_of_none hq hT1)]; exact hq
              refine ⟨_, rfl, .tuple [.int x, .int y], .tuple [.int x, .int y], .tup (SqT.of upd_same) (.cons (.int _) (.cons (.int _) .nil)), .tup (SqT.of hq1) (.cons (.int _) (.cons (.int _) .nil)), rfl, rfl, _, rfl, ?_⟩
              rw [show PyData.eqv (.tuple [.int x, .int y]) (.tuple [.int x, .int y]) = true by simp [PyData.eqv, PyData.eqvAll]]
              exact iteF ⟨rfl, AT.Same.up hT1⟩
          · rintro _ H4 ⟨rfl, s4⟩
            have b4 : BoxAt H4 p (n + 7 + 2 * i) := (bi.up s2).up s4
            have si4 : SameX p H H4 := si.trans (sameX_of (s2.trans s4))
            refine ⟨_, rfl, _, rfl, z, rfl, g.le, _, _, rfl, rfl, p, _, _, rfl, b4, (by omega), (by omega), big (by omega), fun rk Hk c1 c2 xk bk => ?_⟩
            refine ⟨_, rfl, p, _, _, rfl, bk, (by omega), (by decide), (by decide +kernel), fun rs Hs d1 d2 xs bs => ?_⟩
            obtain ⟨ch, hch, ech⟩ := at_ex (l := (Str.cps "0123456789-/+ ._a").toList) (r := rs) d1 d2
            have hch2 : ch < 1114112 := by
              have : ∀ c ∈ (Str.cps "0123456789-/+ ._a").toList, c < 1114112 := by decide +kernel
              exact this ch hch
            refine ⟨_, rs, ch, rfl, rfl, (by decide), ech, _, _, rfl, ?_⟩
            have hsz : sizeLine = 16777216 := sizeLine_eq
            have gs := gd_sign ch hch2
            have l1 := (gd_cut gi none (some rk)).len
            have l2 := (gd_cut gi (some rk) none).len
            have l3 := (gd_cut gi (some (rk + 1)) none).len
            have ls : Str.length ⟨#[ch]⟩ = 1 := rfl
            refine ⟨_, rfl, _, rfl, _, rfl, z, rfl, g.le, _, rfl, _, _, rfl, rfl, (by rw [ls]; omega), _, rfl, _, rfl, _, rfl, z, rfl, g.le, _, _, rfl, rfl, (by rw [len_app, ls]; omega), ?_⟩
            refine ⟨_, rfl, _, rfl, _, rfl, z, rfl, g.le, _, rfl, _, rfl, _, _, rfl, rfl, _, rfl, z, rfl, g.le, _, _, rfl, rfl, (by omega), ?_⟩
            refine ⟨_, rfl, _, rfl, _, rfl, z, rfl, g.le, _, rfl, _, _, rfl, rfl, (by rw [ls]; omega), _, rfl, _, rfl, _, _, rfl, rfl, _, rfl, z, rfl, g.le, _, _, rfl, rfl, (by rw [len_app, ls]; omega), ?_⟩
            refine ⟨(by show 3 ≤ sizeLine; decide), fun ql hql => ?_⟩
            have ga : Gd (40 * 3 ^ (i + 1)) (cutS z none (some rk) ++ ⟨#[ch]⟩ ++ cutS z (some rk) none) := (gd_app (gd_app (gd_cut gi _ _) gs) (gd_cut gi _ _)).mono (by rw [Nat.pow_succ]; have : 0 < 3 ^ i := Nat.pow_pos (by decide); omega)
            have gb : Gd (40 * 3 ^ (i + 1)) (cutS z none (some rk) ++ cutS z (some (rk + 1)) none) := (gd_app (gd_cut gi _ _) (gd_cut gi _ _)).mono (by rw [Nat.pow_succ]; omega)
            have gc : Gd (40 * 3 ^ (i + 1)) (cutS z none (some rk) ++ ⟨#[ch]⟩ ++ cutS z (some (rk + 1)) none) := (gd_app (gd_app (gd_cut gi _ _) gs) (gd_cut gi _ _)).mono (by rw [Nat.pow_succ]; have : 0 < 3 ^ i := Nat.pow_pos (by decide); omega)
            obtain ⟨zn, ez, gzn⟩ : ∃ zn, atI [V.str (cutS z none (some rk) ++ ⟨#[ch]⟩ ++ cutS z (some rk) none), V.str (cutS z none (some rk) ++ cutS z (some (rk + 1)) none), V.str (cutS z none (some rk) ++ ⟨#[ch]⟩ ++ cutS z (some (rk + 1)) none)] (0 + (i : Int)) = some (.str zn) ∧ Gd (40 * 3 ^ (i + 1)) zn := by
              have : i = 0 ∨ i = 1 ∨ i = 2 := by omega
              rcases this with rfl | rfl | rfl
              · exact ⟨_, rfl, ga⟩
              · exact ⟨_, rfl, gb⟩
              · exact ⟨_, rfl, gc⟩
            refine ⟨_, rfl, ql, _, _, _, rfl, rfl, SqL.of upd_same, ez, ?_⟩
            refine ⟨zn, _, _, _, _, _, rfl, gzn, (bs.up (AT.Same.up hql)).mono (by omega), ((si4.trans xk).trans xs).trans (sameX_of (AT.Same.up hql))⟩
    · rintro σ' H' ⟨z, sv, o7, o8, o9, oa, rfl, gi, bi, si⟩
      exact k H' si (bi.mono (by omega))
end
end K03

set_option maxHeartbeats 4000000
namespace K03
open PySem PySem.Spec PyProof.Rows L2 AT
section
variable {P : Program} {w : World} {K : PySem.W.Frag} {mg : Str → Option Value} {base : Heap}
theorem eq_nil {H : Hp} {D p : Addr} {l : List Nat} {Q : VK} (hc : ∀ c ∈ l, c < 1114112) (hD : H D = some (.lst (l.map fun c => V.str ⟨#[c]⟩))) (hp : H p = some (.lst [])) (q : Q (.bl l.isEmpty) H) : rEqD K (.ref D) (.ref p) H Q := by
  refine ⟨_, _, .lst (SqL.of hD) (dp_signs l), .lst (SqL.of hp) .nil, ?_, by decide, ?_⟩
  · unfold SeqAt.shaped
    show (PyData.canLayAll0 (l.map fun c => PyData.str ⟨#[c]⟩) && decide (PyData.depthAll (l.map fun c => PyData.str ⟨#[c]⟩) + 1 ≤ 64)) = true
    rw [lay_signs l hc, depth_signs]
    rfl
  · cases l with
    | nil => exact q
    | cons c l => exact q
theorem both_in (c : Nat) : decide (c ∈ (Str.cps (("abcdefghijklmnopqrstuvwxyz" : Str) ++ ("0123456789" : Str))).toList) = (inS c letters || inS c digits) := by
  have e : (Str.cps (("abcdefghijklmnopqrstuvwxyz" : Str) ++ ("0123456789" : Str))).toList = (Str.cps letters).toList ++ (Str.cps digits).toList := by
    show ((Str.cps letters) ++ (Str.cps digits)).toList = _
    rw [Array.toList_append]
  rw [e]
  unfold inS
  simp [List.mem_append]
theorem named_empty (z : Str) : (z.cps.toList.filter fun c => !(inS c letters || inS c digits)).isEmpty = z.cps.toList.all fun c => inS c letters || inS c digits := by
  induction z.cps.toList with
  | nil => rfl
  | cons c l ih =>
    rw [List.filter_cons, List.all_cons]
    cases (inS c letters || inS c digits) with
    | true => simpa using ih
    | false => rfl
def spNamed : Sp := fun vs H Q _ => ∃ z, vs = [.str z] ∧ Good z ∧ ∀ H', Same H H' → Q (.bl (nameV (.str z))) H'
theorem sc_w_is_named : FnScope ["_law_word", "_law_small", "_law_sign"] ["_law_word"] (defScope s_w_is_named) := ⟨rfl, rfl, rfl, by decide +kernel, rfl, by decide +kernel, by decide +kernel⟩
theorem ok_w_is_named (T : Tx K mg base) : Ok P w K mg base 1 (d_w_is_named.loc K) ["_law_word"] spNamed := by
  refine mk_ok (k := 0) T.f_w_is_named sc_w_is_named (fun _ _ _ _ _ _ us hl => match us, hl with | [_], _ => rfl) (fun vs H Q E h => ?_) (fun cdv A outer s H vs Q E hr h => ?_)
  · obtain ⟨z, rfl, _⟩ := h
    rfl
  · obtain ⟨z, rfl, hz, k⟩ := h
    refine ⟨_, (pss_cons (ps_set (i := 1) sc_w_is_named.nd rfl (Or.inr rfl) pe_str)
      (pss_cons (ps_if (PW.pt (pw_or (pt_not (pt_val (pe_callB call_isi (by rfl) T.b_isinstance (by decide +kernel) (pa_cons (pv 0) (pa_cons (pe_bltn (v := .ty "str") rfl T.b_str (by decide +kernel) rfl) pa_nil))))) (pw_or (pt_not (pt_chain op_lt op_lt pe_int (pe_callB call_len_str (by rfl) T.b_len (by decide +kernel) (pa_cons (pv 0) pa_nil)) pe_int)) (pw_or1 (pt_cmpR op_notInS (pe_ix ix_str (pv 0) pe_int (fun _ _ => rfl)) (pv 1) (by rfl)))))) (pss_one (ps_ret pe_bl)) pss_nil)
      (pss_one (ps_ret (pe_cmpR (op_eqD hr.units) (pe_lc (own := [("_law_sign", 2)]) (g := (gName 2)) (by rfl) sc_w_is_named.nd (pi_str (pv 0)) (blkOk_by (own := [("_law_sign", 2)]) (N := ["_law_word", "_law_small", "_law_sign"]) (sc := defScope s_w_is_named) (by decide +kernel)) (fun _ _ _ _ _ => (pg_name (i := 2) sc_w_is_named.nd rfl (Or.inl rfl))) (fun _ _ _ _ _ => (pts_one (pt_cmpR op_notInS (pv 2) (pe_op op_add_str (pv 1) pe_str) (by rfl)))) (fun _ _ _ _ _ => (pv 2))) (pe_lst pa_nil) (nomark _)))))), ?_⟩
    have no : nameV (.str z) = false → Q (.bl false) H := fun e => by
      have := k H (Same.refl _)
      rw [e] at this
      exact this
    obtain ⟨t1, y1, q1⟩ := isi_str (H := H) T (.str z)
    refine ⟨_, rfl, _, _, _, _, _, rfl, .ty _, y1, q1, _, rfl, iteF ?_⟩
    refine ⟨_, rfl, z, rfl, hz.le, _, _, rfl, rfl, _, rfl, ?_⟩
    refine ite2 (fun h1 => ?_) (fun h1 => ?_)
    · have h1' : 0 < (z.length : Int) := of_decide_eq_true h1
      refine ⟨_, _, rfl, rfl, _, rfl, ?_⟩
      by_cases h2 : (z.length : Int) ≤ 8
      · rw [decide_eq_true (show (z.length : Int) < 9 by omega)]
        refine iteF ⟨_, rfl, z, 0, _, rfl, rfl, hz.le, at0 h1', _, rfl, _, _, rfl, rfl, _, rfl, ?_⟩
        by_cases h3 : inS (z.cps.getD 0 0) letters = true
        · rw [show decide (z.cps.getD 0 0 ∈ (Str.cps "abcdefghijklmnopqrstuvwxyz").toList) = true from h3]
          refine iteF ⟨_, rfl, z, rfl, fun D hD => ?_⟩
          refine lc_text (fun c => !(inS c letters || inS c digits)) (fun c => .str ⟨#[c]⟩) hz.lt hD (fun x => rfl) (fun c H' R _ _ k2 => ?_) (fun c H' R _ _ k2 => ⟨_, rfl, k2 H' (Same.refl _)⟩) (fun H1 s1 hl => ?_)
          · refine ⟨_, rfl, _, rfl, _, _, rfl, rfl, (by decide), _, _, rfl, rfl, _, rfl, ?_⟩
            rw [both_in]
            exact k2 H' (Same.refl _)
          · refine ⟨(by show 0 ≤ sizeLine; exact Nat.zero_le _), fun p hp => eq_nil (fun c hc => hz.ok c ((List.mem_filter.mp hc).1)) (by rw [upd_ne (ne_of_none hl hp)]; exact hl) upd_same ?_⟩
            have e3 : nameV (.str z) = (z.cps.toList.all fun c => inS c letters || inS c digits) := by
              show isNameS z = _
              unfold isNameS
              rw [decide_eq_true h1', decide_eq_true h2, h3, Bool.true_and, Bool.true_and, Bool.true_and]
            have := k _ (s1.trans (AT.Same.up (o := .lst []) hp))
            rw [named_empty]
            rw [e3] at this
            exact this
        · have h3' : inS (z.cps.getD 0 0) letters = false := by simpa using h3
          rw [show decide (z.cps.getD 0 0 ∈ (Str.cps "abcdefghijklmnopqrstuvwxyz").toList) = false from h3']
          refine iteT (no ?_)
          show isNameS z = _
          unfold isNameS
          rw [h3', Bool.false_and, Bool.and_false, Bool.and_false]
      · rw [decide_eq_false (show ¬ (z.length : Int) < 9 by omega)]
        refine iteT (iteT (no ?_))
        show isNameS z = _
        unfold isNameS
        rw [decide_eq_false h2, Bool.false_and, Bool.and_false]
    · refine ⟨_, rfl, iteT (iteT (no ?_))⟩
      have h1' : decide (0 < (z.length : Int)) = false := by simpa using h1
      show isNameS z = _
      unfold isNameS
      rw [h1', Bool.false_and]
end
end K03

set_option maxHeartbeats 4000000
namespace K03
open PySem PySem.Spec PyProof.Rows L2 AT
section
variable {P : Program} {w : World} {K : PySem.W.Frag} {mg : Str → Option Value} {base : Heap}
theorem gd_join : ∀ (ys : List Str), (∀ y ∈ ys, Gd 1 y) → Gd ys.length (Str.join "" ys)
  | [], _ => gd_string ""
  | [x], h => h x (List.mem_singleton.mpr rfl)
  | x :: y :: r, h => by
    have h2 := gd_join (y :: r) fun z hz => h z (List.mem_cons_of_mem _ hz)
    have h1 := h x List.mem_cons_self
    show Gd _ (x ++ ("" : Str) ++ Str.join "" (y :: r))
    exact (gd_app (gd_app h1 (gd_string "")) h2).mono (by simp only [List.length_cons]; show 1 + 0 + _ ≤ _; omega)
theorem gd_joinT {ys : List Str} (h : ∀ y ∈ ys, Gd 1 y) : Gd ys.length (Txt.join "" ys) := by
  show Gd _ (Builtin.Str.glued "" ys)
  rw [StrLaws.glued_eq_join]
  exact gd_join ys h
theorem sum_one : ∀ (ys : List Str), (∀ y ∈ ys, Gd 1 y) → (ys.map (·.length)).sum ≤ ys.length
  | [], _ => Nat.le_refl _
  | x :: r, h => by
    have h2 := sum_one r fun z hz => h z (List.mem_cons_of_mem _ hz)
    have h1 := (h x List.mem_cons_self).len
    simp only [List.map_cons, List.sum_cons, List.length_cons]
    omega
theorem sh3 (a b c : Bool) : (PyData.list [.bool a, .bool b, .bool c]).showable = true ∧ (PyData.list [.bool a, .bool b, .bool c]).depth ≤ 50 ∧ (PyData.list [.bool a, .bool b, .bool c]).shown.length ≤ sizeLine := by
  cases a <;> cases b <;> cases c <;> exact ⟨by decide +kernel, by decide +kernel, by decide +kernel⟩
theorem sh1 (a : Bool) : (PyData.bool a).showable = true ∧ (PyData.bool a).depth ≤ 50 ∧ (PyData.bool a).shown.length ≤ sizeLine := by
  cases a <;> exact ⟨by decide +kernel, by decide +kernel, by decide +kernel⟩
theorem SameX.new {p D : Addr} {H H' : Hp} {o : HO} (s : SameX p H H') (hD : H D = none) : SameX p H (upd H' D o) := fun b u hb e => by
  rw [upd_ne (ne_of_none e hD)]
  exact s b u hb e
theorem BoxAt.new {p D : Addr} {H : Hp} {n : Nat} {o : HO} (h : BoxAt H p n) (hD : D ≠ p) : BoxAt (upd H D o) p n := by
  obtain ⟨a, b, c, e, r⟩ := h
  exact ⟨a, b, c, by rw [upd_ne (Ne.symm hD)]; exact e, r⟩
theorem ok_abc : ∀ c ∈ (Str.cps "abcdefghijklmnopqrstuvwxyz0123456789").toList, c < 1114112 := by decide +kernel
theorem ok_mix : ∀ c ∈ (Str.cps " AZ_-.()").toList, c < 1114112 := by decide +kernel
def spWords : Sp := fun vs H Q _ => ∃ (p : Addr) (n : Nat), vs = [.ref p] ∧ BoxAt H p n ∧ n ≤ 1000 ∧ ∀ H', SameX p H H' → Q (.bl true) H'
theorem sc_w_words_right : FnScope ["_law_box_here", "_law_small", "_law_k", "_law_word", "_law_at", "_law_sign", "_law_one", "_law_found", "_law_due", "_law_a", "_law_b", "_law_pairs", "_law_low", "_law_high"] ["_law_box_here"] (defScope s_w_words_right) := ⟨rfl, rfl, rfl, by decide +kernel, rfl, by decide +kernel, by decide +kernel⟩
theorem ok_w_words_right (T : Tx K mg base) : OkG P w K mg base 8 (d_w_words_right.loc K) ["_law_box_here"] spWords := by
  refine mk_okG (k := 7) T.f_w_words_right sc_w_words_right (fun _ _ _ _ _ _ us hl => match us, hl with | [_], _ => rfl) (fun vs H Q E h => ?_) (fun cdv A outer s H vs Q E hgd hr h => ?_)
  · obtain ⟨p, n, rfl, _⟩ := h
    rfl
  · obtain ⟨p, n, rfl, hb, hn, k⟩ := h
    refine ⟨_, (pss_cons (ps_set (i := 1) sc_w_words_right.nd rfl (Or.inr rfl) pe_str)
      (pss_cons (ps_set (i := 3) sc_w_words_right.nd rfl (Or.inl rfl) (pe_join pe_str (pe_lc (own := [("_law_k", 2)]) (g := (gName 2)) (tt := tYes) (by rfl) sc_w_words_right.nd (pi_range1 (by rfl) T.b_range (pa_cons (pe_op op_add pe_int (ok_call (ok_w_take T) (hr.mono (by decide)) rfl T.g_w_take passL (pa_cons (pv 0) (pa_cons pe_int pa_nil)))) pa_nil)) (blkOk_by (own := [("_law_k", 2)]) (N := ["_law_box_here", "_law_small", "_law_k", "_law_word", "_law_at", "_law_sign", "_law_one", "_law_found", "_law_due", "_law_a", "_law_b", "_law_pairs", "_law_low", "_law_high"]) (sc := defScope s_w_words_right) (by decide +kernel)) (fun _ _ _ _ _ => (pg_name (i := 2) sc_w_words_right.nd rfl (Or.inl rfl))) (fun _ _ _ _ _ => pts_nil) (fun _ _ _ _ _ => (pe_ix ix_str (pv 1) (ok_call (ok_w_take T) (hr.mono (by decide)) rfl T.g_w_take passL (pa_cons (pv 0) (pa_cons pe_int pa_nil))) (fun _ _ => rfl))))))
      (pss_cons (ps_par (by rfl) sc_w_words_right.nd (i := 4) (j := 5) rfl rfl (by decide) rfl rfl (pa_cons (ok_call (ok_w_take T) (hr.mono (by decide)) rfl T.g_w_take passL (pa_cons (pv 0) (pa_cons (pe_op op_add (pe_callB call_len_str (by rfl) T.b_len (by decide +kernel) (pa_cons (pv 3) pa_nil)) pe_int) pa_nil))) (pa_cons (pe_ix ix_str pe_str (ok_call (ok_w_take T) (hr.mono (by decide)) rfl T.g_w_take passL (pa_cons (pv 0) (pa_cons pe_int pa_nil))) (fun _ _ => rfl)) pa_nil)) (by rfl))
      (pss_cons (ps_for (passes_of rfl) rfl (pi_list (pe_lst (pa_cons (pv 3) (pa_cons (pe_op op_add_str (pe_op op_add_str (pe_slice sl_str (pv 3) po_none (po_some (pv 4))) (pv 5)) (pe_slice sl_str (pv 3) (po_some (pv 4)) po_none)) (pa_cons (pe_op op_add_str (pe_op op_add_str (pe_slice sl_str (pv 3) po_none (po_some (pv 4))) (pv 5)) (pe_slice sl_str (pv 3) (po_some (pe_op op_add (pv 4) pe_int)) po_none)) (pa_cons pe_str (pa_cons pe_str pa_nil))))))) (pg_name (i := 6) sc_w_words_right.nd rfl (Or.inl rfl)) (pss_cons (ps_set (i := 7) sc_w_words_right.nd rfl (Or.inl rfl) (pe_lst (pa_cons (ok_call (ok_is_name T) (hr.mono (by decide)) rfl T.g_is_name passL (pa_cons (pv 6) pa_nil)) (pa_cons (ok_call (ok_is_unit T) (hr.mono (by decide)) rfl T.g_is_unit passL (pa_cons (pv 6) pa_nil)) (pa_cons (ok_call (ok_is_word T) (hr.mono (by decide)) rfl T.g_is_word passL (pa_cons (pv 6) pa_nil)) pa_nil)))))
      (pss_cons (ps_set (i := 8) sc_w_words_right.nd rfl (Or.inl rfl) (pe_lst (pa_cons (ok_call (ok_w_is_named T) (hr.mono (by decide)) rfl T.g_w_is_named passL (pa_cons (pv 6) pa_nil)) (pa_cons (pe_cmpR op_in_seq (pv 6) (pe_lst (pa_cons pe_str (pa_cons pe_str pa_nil))) (by rfl)) (pa_cons (pe_cmpR op_in_seq (pv 6) (pe_lst (pa_cons pe_str (pa_cons pe_str (pa_cons pe_str pa_nil)))) (by rfl)) pa_nil)))))
      (pss_one (ps_if (pt_cmpR op_ne (pe_callB (call_repr hgd hr T.sys) (by rfl) T.b_repr (by decide +kernel) (pa_cons (pv 7) pa_nil)) (pe_callB (call_repr hgd hr T.sys) (by rfl) T.b_repr (by decide +kernel) (pa_cons (pv 8) pa_nil)) (nomark _)) (pss_one (ps_ret pe_bl)) pss_nil)))))
      (pss_cons (ps_par (by rfl) sc_w_words_right.nd (i := 9) (j := 10) rfl rfl (by decide) rfl rfl (pa_cons (pe_op op_sub (ok_call (ok_w_take T) (hr.mono (by decide)) rfl T.g_w_take passL (pa_cons (pv 0) (pa_cons (pe_op op_pow pe_int pe_int) pa_nil))) (pe_op op_pow pe_int pe_int)) (pa_cons (pe_op op_sub (ok_call (ok_w_take T) (hr.mono (by decide)) rfl T.g_w_take passL (pa_cons (pv 0) (pa_cons (pe_op op_pow pe_int pe_int) pa_nil))) (pe_op op_pow pe_int pe_int)) pa_nil)) (by rfl))
      (pss_cons (ps_set (i := 11) sc_w_words_right.nd rfl (Or.inl rfl) (pe_lst (pa_cons (pe_tup (pa_cons (pv 9) (pa_cons (pv 10) pa_nil))) (pa_cons (pe_tup (pa_cons (pv 10) (pa_cons (pv 9) pa_nil))) (pa_cons (pe_tup (pa_cons (pv 9) (pa_cons (pv 9) pa_nil))) (pa_cons (pe_tup (pa_cons (pe_callB (call_min2 rfl) (by rfl) T.b_min (by decide +kernel) (pa_cons (pv 9) (pa_cons (pv 10) pa_nil))) (pa_cons (pe_callB (call_max2 rfl) (by rfl) T.b_max (by decide +kernel) (pa_cons (pv 9) (pa_cons (pv 10) pa_nil))) pa_nil))) pa_nil))))))
      (pss_cons (ps_for (passes_of rfl) rfl (pi_list (pv 11)) (pg_tup rfl (pgs_cons (pg_name (i := 12) sc_w_words_right.nd rfl (Or.inl rfl)) (pgs_cons (pg_name (i := 13) sc_w_words_right.nd rfl (Or.inl rfl)) pgs_nil))) (pss_one (ps_for (passes_of rfl) rfl (pi_list (pe_lst (pa_cons (pv 9) (pa_cons (pv 10) (pa_cons (pe_op op_sub (pv 12) pe_int) (pa_cons (pe_op op_add (pv 13) pe_int) (pa_cons (pe_op op_fdivW (pe_op op_add (pv 12) (pv 13)) pe_int) (pa_cons pe_int pa_nil)))))))) (pg_name (i := 6) sc_w_words_right.nd rfl (Or.inl rfl)) (pss_one (ps_if (pt_cmpR op_ne (pe_callB (call_repr hgd hr T.sys) (by rfl) T.b_repr (by decide +kernel) (pa_cons (ok_call (ok_is_integer T) (hr.mono (by decide)) rfl T.g_is_integer passL (pa_cons (pv 6) (pa_cons (pv 12) (pa_cons (pv 13) pa_nil)))) pa_nil)) (pe_callB (call_repr hgd hr T.sys) (by rfl) T.b_repr (by decide +kernel) (pa_cons (pe_chain op_le op_le (pv 12) (pv 6) (pv 13)) pa_nil)) (nomark _)) (pss_one (ps_ret pe_bl)) pss_nil)))))
      (pss_one (ps_ret pe_bl))))))))), ?_⟩
    have hsz : sizeLine = 16777216 := sizeLine_eq
    refine ⟨⟨_, rfl⟩, _, rfl, p, _, _, rfl, hb, (by omega), (by decide), (by decide +kernel), fun r1 H1 a1 a2 x1 b1 => ?_⟩
    refine ⟨_, _, rfl, rfl, 1 + r1, rfl, (by omega), (by omega), fun D hD => ?_⟩
    have hDp : D ≠ p := box_ne b1 hD
    refine lc_range (fun i H' => ∃ ys : List Str, H' D = some (.lst (ys.map V.str)) ∧ ys.length = i ∧ (∀ y ∈ ys, Gd 1 y) ∧ BoxAt H' p (n + 1 + i) ∧ SameX p H1 H') ⟨[], upd_same, rfl, (fun _ h => nomatch h), b1.new hDp, SameX.new (SameX.refl _ _) hD⟩ (fun i H' hi ⟨ys, hl, hlen, hg, hbx, hsx⟩ => ?_) (fun H' ⟨ys, hl, hlen, hg, hbx, hsx⟩ => ?_)
    · refine ⟨rfl, ?_⟩
      dsimp only [tYes]
      refine iteT ⟨_, rfl, _, rfl, p, _, _, rfl, hbx, (by omega), (by decide), (by decide +kernel), fun r2 H2 c1 c2 x2 b2 => ?_⟩
      obtain ⟨ch, hch, ech⟩ := at_ex (l := (Str.cps "abcdefghijklmnopqrstuvwxyz0123456789").toList) (r := r2) c1 c2
      refine ⟨_, r2, ch, rfl, rfl, (by decide), ech, _, x2 _ _ hDp hl, (by rw [List.length_map]; omega), ys ++ [⟨#[ch]⟩], ?_, ?_, ?_, ?_, ?_⟩
      · rw [upd_same, List.map_append]
        rfl
      · rw [List.length_append, hlen]
        rfl
      · intro y hy
        rcases List.mem_append.mp hy with q | q
        · exact hg y q
        · rw [List.mem_singleton.mp q]
          exact gd_sign ch (ok_abc ch hch)
      · exact b2.new hDp
      · exact SameX.new (hsx.trans x2) hD
    · have hs1 := sum_one ys hg
      refine ⟨_, D, ys, rfl, rfl, .inl (SqL.of hl), ?_, ?_⟩
      · show (ys.map (·.length)).sum + ys.length * 0 ≤ _
        omega
      have gw : Gd 9 (Txt.join "" ys) := (gd_joinT hg).mono (by omega)
      generalize Txt.join "" ys = z0 at gw ⊢
      have len0 := gw.len
      have bx : BoxAt H' p (n + 10) := hbx.mono (by omega)
      have sx : SameX p H H' := x1.trans hsx
      clear hl hbx hsx hs1 hg
      -- at, sign
      refine ⟨_, rfl, _, rfl, z0, rfl, (by omega), _, _, rfl, rfl, p, _, _, rfl, bx, (by omega), (by omega), big (by omega), fun r2 H2 c1 c2 x2 b2 => ?_⟩
      refine ⟨_, rfl, p, _, _, rfl, b2, (by omega), (by decide), (by decide +kernel), fun r3 H3 d1 d2 x3 b3 => ?_⟩
      obtain ⟨ch, hch, ech⟩ := at_ex (l := (Str.cps " AZ_-.()").toList) (r := r3) d1 d2
      refine ⟨_, r3, ch, rfl, rfl, (by decide), ech, _, _, rfl, ?_⟩
      have sx3 : SameX p H H3 := (sx.trans x2).trans x3
      have gs := gd_sign ch (ok_mix ch hch)
      have l1 := (gd_cut gw none (some r2)).len
      have l2 := (gd_cut gw (some r2) none).len
      have l3 := (gd_cut gw (some (r2 + 1)) none).len
      have ls : Str.length ⟨#[ch]⟩ = 1 := rfl
      have le0 : z0.length ≤ sizeLine := by omega
      refine ⟨_, rfl, ?_⟩
      refine ⟨_, rfl, _, rfl, _, rfl, z0, rfl, le0, _, rfl, _, _, rfl, rfl, (by rw [ls]; omega), _, rfl, _, rfl, _, rfl, z0, rfl, le0, _, _, rfl, rfl, (by rw [len_app, ls]; omega), ?_⟩
      refine ⟨_, rfl, _, rfl, _, rfl, z0, rfl, le0, _, rfl, _, _, rfl, rfl, (by rw [ls]; omega), _, rfl, _, rfl, _, _, rfl, rfl, _, rfl, z0, rfl, le0, _, _, rfl, rfl, (by rw [len_app, ls]; omega), ?_⟩
      refine ⟨(by show 5 ≤ sizeLine; decide), fun ql hql => ?_⟩
      have g1 : Gd 30 (cutS z0 none (some r2) ++ ⟨#[ch]⟩ ++ cutS z0 (some r2) none) := (gd_app (gd_app (gd_cut gw _ _) gs) (gd_cut gw _ _)).mono (by decide)
      have g2 : Gd 30 (cutS z0 none (some r2) ++ ⟨#[ch]⟩ ++ cutS z0 (some (r2 + 1)) none) := (gd_app (gd_app (gd_cut gw _ _) gs) (gd_cut gw _ _)).mono (by decide)
      generalize cutS z0 none (some r2) ++ ⟨#[ch]⟩ ++ cutS z0 (some r2) none = z1 at g1 ⊢
      generalize cutS z0 none (some r2) ++ ⟨#[ch]⟩ ++ cutS z0 (some (r2 + 1)) none = z2 at g2 ⊢
      have hqp : ql ≠ p := box_ne b3 hql
      refine ⟨ql, rfl, ⟨_, SqL.of upd_same⟩, for_list (xs := [.str z0, .str z1, .str z2, .str "start", .str "beats"]) (fun i σ' H' => ∃ (o6 o7 o8 : Option V), σ' = ([some (.ref p), some (.str "abcdefghijklmnopqrstuvwxyz0123456789"), none, some (.str z0), some (.int r2), some (.str ⟨#[ch]⟩), o6, o7, o8, none, none, none, none, none] : L2.St) ∧
        H' ql = some (.lst [.str z0, .str z1, .str z2, .str "start", .str "beats"]) ∧ BoxAt H' p (n + 12) ∧ SameX p H H') ⟨_, _, _, rfl, upd_same, b3.new hqp, sx3.trans (sameX_of (AT.Same.up hql))⟩ (fun i σ' H' _ h => SqL.of h.choose_spec.choose_spec.choose_spec.2.1) ?_ ?_⟩
      · rintro i x σ' H' hx ⟨o6, o7, o8, rfl, hl, bi, si⟩
        obtain ⟨z, rfl, gz⟩ : ∃ z, x = .str z ∧ Gd 30 z := by
          have hm := List.mem_of_getElem? hx
          simp only [List.mem_cons, List.not_mem_nil, or_false] at hm
          rcases hm with rfl | rfl | rfl | rfl | rfl
          · exact ⟨_, rfl, gw.mono (by decide)⟩
          · exact ⟨_, rfl, g1⟩
          · exact ⟨_, rfl, g2⟩
          · exact ⟨_, rfl, (gd_string "start").mono (by decide)⟩
          · exact ⟨_, rfl, (gd_string "beats").mono (by decide)⟩
        have gg : Good z := gz.good
        refine ⟨_, rfl, .str z, rfl, .str z, (fun z' q => by cases q; exact gg.lt), fun Ha sa => ?_⟩
        refine ⟨_, rfl, .str z, rfl, .str z, _, rfl, .str z, rfl, .str z, (by show 3 ≤ sizeLine; decide), fun qf hqf => ?_⟩
        refine ⟨_, rfl, z, rfl, gg, fun Hb sb => ?_⟩
        refine ⟨_, rfl, (by show 2 ≤ sizeLine; decide), fun qa hqa => ⟨qa, _, rfl, .inl (SqL.of upd_same), rfl, flat2, ?_⟩⟩
        rw [if_neg Bool.false_ne_true, in2]
        refine ⟨_, rfl, (by show 3 ≤ sizeLine; decide), fun qb hqb => ⟨qb, _, rfl, .inl (SqL.of upd_same), rfl, flat3, ?_⟩⟩
        rw [if_neg Bool.false_ne_true, in3]
        refine ⟨(by show 3 ≤ sizeLine; decide), fun qd hqd => ?_⟩
        have s5 : Same (upd Ha qf (.lst [.bl (nameV (.str z)), .bl (unitV (.str z)), .bl (wordV (.str z))])) (upd (upd (upd Hb qa (.lst [.str "beats", .str "seconds"])) qb (.lst [.str "before", .str "same", .str "after"])) qd (.lst [.bl (nameV (.str z)), .bl (unitV (.str z)), .bl (wordV (.str z))])) := ((sb.trans (AT.Same.up hqa)).trans (AT.Same.up hqb)).trans (AT.Same.up hqd)
        have hqf5 := s5 _ _ upd_same
        have s6 := (sa.trans (AT.Same.up (o := .lst [.bl (nameV (.str z)), .bl (unitV (.str z)), .bl (wordV (.str z))]) hqf)).trans s5
        generalize nameV (.str z) = c1 at s6 hqf5 ⊢
        generalize unitV (.str z) = c2 at s6 hqf5 ⊢
        generalize wordV (.str z) = c3 at s6 hqf5 ⊢
        have dd := sh3 c1 c2 c3
        refine ⟨_, rfl, _, .list [.bool c1, .bool c2, .bool c3], rfl, .lst (SqL.of hqf5) (.cons (.bl _) (.cons (.bl _) (.cons (.bl _) .nil))), dd.1, dd.2.1, dd.2.2, ?_⟩
        refine ⟨_, rfl, _, .list [.bool c1, .bool c2, .bool c3], rfl, .lst (SqL.of upd_same) (.cons (.bl _) (.cons (.bl _) (.cons (.bl _) .nil))), dd.1, dd.2.1, dd.2.2, rfl, _, rfl, ?_⟩
        rw [decide_eq_true rfl]
        exact iteF ⟨_, _, _, rfl, s6 _ _ hl, bi.up s6, si.trans (sameX_of s6)⟩
      · rintro σ' H' ⟨o6, o7, o8, rfl, hl, bi, si⟩
        refine ⟨_, rfl, _, _, rfl, rfl, ⟨by decide, by decide, by decide⟩, p, _, _, rfl, bi, (by omega), (by decide), (by decide +kernel), fun ra Ha e1 e2 xa ba => ?_⟩
        rw [pow29] at e2
        refine ⟨_, _, rfl, rfl, ⟨by decide, by decide, by decide⟩, _, _, rfl, rfl, ?_⟩
        refine ⟨_, rfl, _, _, rfl, rfl, ⟨by decide, by decide, by decide⟩, p, _, _, rfl, ba, (by omega), (by decide), (by decide +kernel), fun rb Hb f1 f2 xb bb => ?_⟩
        rw [pow29] at f2
        refine ⟨_, _, rfl, rfl, ⟨by decide, by decide, by decide⟩, _, _, rfl, rfl, ?_⟩
        rw [pow28]
        refine ⟨_, _, rfl, ?_⟩
        dsimp only
        generalize ra - 10000000000000000000000000000 = a
        generalize rb - 10000000000000000000000000000 = b
        have sxb : SameX p H Hb := (si.trans xa).trans xb
        refine ⟨_, rfl, _, rfl, (by show 2 ≤ sizeLine; decide), fun t1 h1 => ?_⟩
        refine ⟨_, rfl, _, rfl, (by show 2 ≤ sizeLine; decide), fun t2 h2 => ?_⟩
        refine ⟨_, rfl, _, rfl, (by show 2 ≤ sizeLine; decide), fun t3 h3 => ?_⟩
        refine ⟨_, rfl, _, rfl, _, _, rfl, _, rfl, _, rfl, _, _, rfl, (by show 2 ≤ sizeLine; decide), fun t4 h4 => ?_⟩
        refine ⟨(by show 4 ≤ sizeLine; decide), fun q5 h5 => ?_⟩
        have v5 : ∃ H5 : Hp, H5 = upd (upd (upd (upd (upd Hb t1 (.tup [.int a, .int b])) t2 (.tup [.int b, .int a])) t3 (.tup [.int a, .int a])) t4 (.tup [.int (if b < a then b else a), .int (if b > a then b else a)])) q5 (.lst [.ref t1, .ref t2, .ref t3, .ref t4]) := ⟨_, rfl⟩
        obtain ⟨H5, e5⟩ := v5
        have q1 : H5 t1 = some (.tup [.int a, .int b]) := by rw [e5]; exact AT.Same.up h5 _ _ (AT.Same.up h4 _ _ (AT.Same.up h3 _ _ (AT.Same.up h2 _ _ upd_same)))
        have q2 : H5 t2 = some (.tup [.int b, .int a]) := by rw [e5]; exact AT.Same.up h5 _ _ (AT.Same.up h4 _ _ (AT.Same.up h3 _ _ upd_same))
        have q3 : H5 t3 = some (.tup [.int a, .int a]) := by rw [e5]; exact AT.Same.up h5 _ _ (AT.Same.up h4 _ _ upd_same)
        have q4 : H5 t4 = some (.tup [.int (if b < a then b else a), .int (if b > a then b else a)]) := by rw [e5]; exact AT.Same.up h5 _ _ upd_same
        have q0 : H5 q5 = some (.lst [.ref t1, .ref t2, .ref t3, .ref t4]) := by rw [e5]; exact upd_same
        have sx5 : SameX p H H5 := by rw [e5]; exact sxb.trans (sameX_of ((((AT.Same.up h1).trans (AT.Same.up h2)).trans (AT.Same.up h3)).trans ((AT.Same.up h4).trans (AT.Same.up h5))))
        rw [← e5]
        clear e5 h5 h4 h3 h2
        refine ⟨_, rfl, q5, rfl, ⟨_, SqL.of q0⟩, for_list (xs := [.ref t1, .ref t2, .ref t3, .ref t4]) (fun i σ' H' => ∃ (o6 o12 o13 : Option V), σ' = ([some (.ref p), some (.str "abcdefghijklmnopqrstuvwxyz0123456789"), none, some (.str z0), some (.int r2), some (.str ⟨#[ch]⟩), o6, o7, o8, some (.int a), some (.int b), some (.ref q5), o12, o13] : L2.St) ∧ Same H5 H') ⟨_, _, _, rfl, Same.refl _⟩ (fun i σ' H' _ h => SqL.of (h.choose_spec.choose_spec.choose_spec.2 _ _ q0)) ?_ ?_⟩
        · rintro i x σ' H6 hx ⟨o6, o12, o13, rfl, s6⟩
          obtain ⟨t, lo, hi, rfl, ht⟩ : ∃ (t : Addr) (lo hi : Int), x = .ref t ∧ H6 t = some (.tup [.int lo, .int hi]) := by
            have hm := List.mem_of_getElem? hx
            simp only [List.mem_cons, List.not_mem_nil, or_false] at hm
            rcases hm with rfl | rfl | rfl | rfl
            · exact ⟨_, _, _, rfl, s6 _ _ q1⟩
            · exact ⟨_, _, _, rfl, s6 _ _ q2⟩
            · exact ⟨_, _, _, rfl, s6 _ _ q3⟩
            · exact ⟨_, _, _, rfl, s6 _ _ q4⟩
          refine ⟨t, _, rfl, SqT.of ht, rfl, _, _, rfl, _, _, rfl, rfl, ?_⟩
          refine ⟨_, rfl, _, rfl, _, rfl, _, _, rfl, rfl, _, rfl, _, _, rfl, rfl, _, rfl, _, rfl, _, _, rfl, rfl, _, _, rfl, rfl, wide_div (b := 10) (by decide) (by decide) (by decide) (by decide), ?_⟩
          refine ⟨(by show 6 ≤ sizeLine; decide), fun q7 h7 => ?_⟩
          refine ⟨q7, rfl, ⟨_, SqL.of upd_same⟩, for_list (xs := [.int a, .int b, .int (lo - 1), .int (hi + 1), .int ((lo + hi) / 2), .int 0]) (fun i σ' H' => ∃ (o6 : Option V), σ' = ([some (.ref p), some (.str "abcdefghijklmnopqrstuvwxyz0123456789"), none, some (.str z0), some (.int r2), some (.str ⟨#[ch]⟩), o6, o7, o8, some (.int a), some (.int b), some (.ref q5), some (.int lo), some (.int hi)] : L2.St) ∧ Same (upd H6 q7 (.lst [.int a, .int b, .int (lo - 1), .int (hi + 1), .int ((lo + hi) / 2), .int 0])) H') ⟨_, rfl, Same.refl _⟩ (fun i σ' H' _ h => SqL.of (h.choose_spec.2 _ _ upd_same)) ?_ ?_⟩
          · rintro j y σ' H8 hy ⟨o6, rfl, s8⟩
            obtain ⟨v, rfl⟩ : ∃ v : Int, y = .int v := by
              have hm := List.mem_of_getElem? hy
              simp only [List.mem_cons, List.not_mem_nil, or_false] at hm
              rcases hm with rfl | rfl | rfl | rfl | rfl | rfl <;> exact ⟨_, rfl⟩
            have dd := sh1 (decide (lo ≤ v) && decide (v ≤ hi))
            refine ⟨_, rfl, _, rfl, _, rfl, .int v, lo, hi, rfl, .int v, _, .bool (decide (lo ≤ v) && decide (v ≤ hi)), rfl, .bl _, dd.1, dd.2.1, dd.2.2, ?_⟩
            refine ⟨_, rfl, _, rfl, _, _, rfl, rfl, _, rfl, ?_⟩
            refine ite2 (fun g1 => ?_) (fun g1 => ?_)
            · refine ⟨_, rfl, _, _, rfl, rfl, ?_⟩
              refine ⟨_, .bool (decide (lo ≤ v) && decide (v ≤ hi)), ?_, .bl _, dd.1, dd.2.1, dd.2.2, rfl, _, rfl, ?_⟩
              · rw [g1, Bool.true_and]
              · rw [decide_eq_true rfl]
                exact iteF ⟨_, rfl, s8⟩
            · refine ⟨_, .bool (decide (lo ≤ v) && decide (v ≤ hi)), ?_, .bl _, dd.1, dd.2.1, dd.2.2, rfl, _, rfl, ?_⟩
              · rw [show decide (lo ≤ v) = false by simpa using g1, Bool.false_and]
              · rw [decide_eq_true rfl]
                exact iteF ⟨_, rfl, s8⟩
          · rintro σ' H8 ⟨o6, rfl, s8⟩
            exact ⟨_, _, _, rfl, s6.trans ((AT.Same.up h7).trans s8)⟩
        · rintro σ' H6 ⟨o6, o12, o13, rfl, s6⟩
          exact k H6 (sx5.trans (sameX_of s6))
end
end K03

set_option maxHeartbeats 4000000
namespace K03
open PySem PySem.Spec PyProof.Rows L2 AT
section
variable {P : Program} {w : World} {K : PySem.W.Frag} {mg : Str → Option Value} {base : Heap}
def tagOf : Nat → Str
  | 0 => "amount"
  | 1 => "unit"
  | _ => "word"
def spTold (K : PySem.W.Frag) : Sp := fun vs H Q _ => ∃ (j : Nat) (v : V), vs = [.int j, v] ∧ j < 3 ∧ AnyV K H v ∧ NoAmt K H v ∧ unitV v = false ∧ wordV v = false ∧ ∀ q H', Same H H' → H' q = some (.lst [.str (tagOf j), v]) → Q (.ref q) H'
theorem sc_w_told : FnScope ["_law_at", "_law_thing", "e"] ["_law_at", "_law_thing"] (defScope s_w_told) := ⟨rfl, rfl, rfl, by decide +kernel, rfl, by decide +kernel, by decide +kernel⟩
theorem ok_w_told (T : Tx K mg base) : Ok P w K mg base 7 (d_w_told.loc K) ["_law_at", "_law_thing"] (spTold K) := by
  refine mk_ok (k := 6) T.f_w_told sc_w_told (fun _ _ _ _ _ _ us hl => match us, hl with | [_, _], _ => rfl) (fun vs H Q E h => ?_) (fun cdv A outer s H vs Q E hr h => ?_)
  · obtain ⟨j, v, rfl, _⟩ := h
    rfl
  · obtain ⟨j, v, rfl, hj, hv, hna, hun, hwo, k⟩ := h
    refine ⟨_, (pss_one (ps_try_mas (tb := _) rfl rfl takes0 (fun W pn xe tk _ => (pss_cons (ps_if (pt_cmpR op_eq (pv 0) pe_int (nomark _)) (pss_one (ps_ret (pe_lst (pa_cons pe_str (pa_cons (ok_callS (ok_amount_text T) (hr.mono (by decide)) rfl T.g_amount_text tk (pa_cons (pv 1) pa_nil)) pa_nil))))) pss_nil)
      (pss_one (ps_ret (pe_lst (pa_cons pe_str (pa_cons (pe_ifExp (pt_cmpR op_eq (pv 0) pe_int (nomark _)) (ok_callS (ok_other_unit T) (hr.mono (by decide)) rfl T.g_other_unit tk (pa_cons (pv 1) pa_nil)) (ok_callS (ok_turned T) (hr.mono (by decide)) rfl T.g_turned tk (pa_cons (pv 1) pa_nil))) pa_nil))))))) (.cons sc_w_told.nd (i := 2) rfl rfl ⟨rfl, by decide, .inl T.g_InvalidAmount⟩ (fun a oe cls d pn hz hf => (pss_one (ps_ret (pe_lst (pa_cons pe_str (pa_cons (pe_xf T.xc_InvalidAmount.xf T.xc_InvalidAmount.no hz hf (pv 2)) pa_nil)))))) (.cons sc_w_told.nd (i := 2) rfl rfl ⟨rfl, by decide, .inl T.g_InvalidUnit⟩ (fun a oe cls d pn hz hf => (pss_one (ps_ret (pe_lst (pa_cons pe_str (pa_cons (pe_xf T.xc_InvalidUnit.xf T.xc_InvalidUnit.no hz hf (pv 2)) pa_nil)))))) (.cons sc_w_told.nd (i := 2) rfl rfl ⟨rfl, by decide, .inl T.g_InvalidWord⟩ (fun a oe cls d pn hz hf => (pss_one (ps_ret (pe_lst (pa_cons pe_str (pa_cons (pe_xf T.xc_InvalidWord.xf T.xc_InvalidWord.no hz hf (pv 2)) pa_nil)))))) .nil))))), ?_⟩
    obtain rfl | rfl | rfl : j = 0 ∨ j = 1 ∨ j = 2 := by omega
    · refine ⟨_, rfl, rfl, _, rfl, iteT ?_⟩
      refine ⟨_, rfl, v, rfl, hv, (fun n d h => absurd h (hna.2 n d)), (fun n d H' h => absurd h (hna.2 n d)), fun _ H1 d sm hd hx => ?_⟩
      refine ⟨true, T.ex_InvalidAmount_InvalidAmount, fun _ a ha => ?_, nofun⟩
      exact ⟨_, rfl, rfl, rfl, d, _, v, rfl, hx, rfl, (by show 2 ≤ sizeLine; decide), fun q hq => k q _ (sm.trans (AT.Same.up hq)) upd_same⟩
    · refine ⟨_, rfl, rfl, _, rfl, iteF ⟨_, rfl, rfl, _, rfl, iteT ?_⟩⟩
      refine ⟨_, rfl, v, rfl, hv, (fun z _ e => absurd (hun.symm.trans e) (by decide)), fun _ H1 d sm hd hx => ?_⟩
      refine ⟨false, T.ex_InvalidUnit_InvalidAmount, nofun, fun _ => ⟨true, T.ex_InvalidUnit_InvalidUnit, fun _ a ha => ?_, nofun⟩⟩
      exact ⟨_, rfl, rfl, rfl, d, _, v, rfl, hx, rfl, (by show 2 ≤ sizeLine; decide), fun q hq => k q _ (sm.trans (AT.Same.up hq)) upd_same⟩
    · refine ⟨_, rfl, rfl, _, rfl, iteF ⟨_, rfl, rfl, _, rfl, iteF ?_⟩⟩
      refine ⟨_, rfl, v, rfl, hv, (fun z H' _ e => absurd (hwo.symm.trans e) (by decide)), fun _ H1 d sm hd hx => ?_⟩
      refine ⟨false, T.ex_InvalidWord_InvalidAmount, nofun, fun _ => ⟨false, T.ex_InvalidWord_InvalidUnit, nofun, fun _ => ⟨true, T.ex_InvalidWord_InvalidWord, fun _ a ha => ?_, nofun⟩⟩⟩
      exact ⟨_, rfl, rfl, rfl, d, _, v, rfl, hx, rfl, (by show 2 ≤ sizeLine; decide), fun q hq => k q _ (sm.trans (AT.Same.up hq)) upd_same⟩
end
end K03

set_option maxHeartbeats 4000000
namespace K03
open PySem PySem.Spec PyProof.Rows L2 AT
/-! ### things that are no amount, no unit, no word -/
inductive Thing (K : PySem.W.Frag) (H : Hp) : V → PyData → Bool → Prop
  | non : Thing K H .non .none false
  | tru : Thing K H (.bl true) (.bool true) false
  | nil {a : Addr} : H a = some (.lst []) → Thing K H (.ref a) (.list []) false
  | bts {a : Addr} : H a = some (.lst [.str "beats"]) → Thing K H (.ref a) (.list [.str "beats"]) false
  | emp {a : Addr} : H a = some (.dK []) → Thing K H (.ref a) (.dict []) false
  | s0 : Thing K H (.str "") (.str "") false
  | s1 : Thing K H (.str "Beats") (.str "Beats") false
  | s2 : Thing K H (.str "befor") (.str "befor") true
  | tup {a : Addr} : H a = some (.tup [.str "same"]) → Thing K H (.ref a) (.tuple [.str "same"]) false
section
variable {K : PySem.W.Frag} {H H' : Hp} {v : V} {d : PyData} {b : Bool}
theorem Thing.up (h : Thing K H v d b) (s : Same H H') : Thing K H' v d b := by
  cases h with
  | non => exact .non
  | tru => exact .tru
  | nil e => exact .nil (s _ _ e)
  | bts e => exact .bts (s _ _ e)
  | emp e => exact .emp (s _ _ e)
  | s0 => exact .s0
  | s1 => exact .s1
  | s2 => exact .s2
  | tup e => exact .tup (s _ _ e)
theorem Thing.any (h : Thing K H v d b) : AnyV K H v := by
  cases h with
  | non => exact .non
  | tru => exact .bl _
  | nil e => exact .lst e
  | bts e => exact .lst e
  | emp e => exact .dct e
  | s0 => exact .str _
  | s1 => exact .str _
  | s2 => exact .str _
  | tup e => exact .tup e
theorem Thing.no (h : Thing K H v d b) : NoAmt K H v := by
  refine ⟨by cases h <;> rfl, fun n m q => ?_⟩
  cases h with
  | nil e => cases q with | obj q => obtain ⟨_, q⟩ := q; rw [e] at q; cases q
  | bts e => cases q with | obj q => obtain ⟨_, q⟩ := q; rw [e] at q; cases q
  | emp e => cases q with | obj q => obtain ⟨_, q⟩ := q; rw [e] at q; cases q
  | tup e => cases q with | obj q => obtain ⟨_, q⟩ := q; rw [e] at q; cases q
  | _ => cases q
theorem Thing.unit (h : Thing K H v d b) : unitV v = false := by cases h <;> first | rfl | decide +kernel
theorem Thing.word (h : Thing K H v d b) : wordV v = false := by cases h <;> first | rfl | decide +kernel
theorem Thing.name (h : Thing K H v d b) : nameV v = b := by cases h <;> first | rfl | decide +kernel
theorem Thing.int (h : Thing K H v d b) (lo hi : Int) : inV3 v lo hi = false := by cases h <;> rfl
theorem Thing.read (h : Thing K H v d b) : readV v = none := by cases h <;> first | rfl | decide +kernel
theorem Thing.good (h : Thing K H v d b) : ∀ z, v = .str z → Good z := by
  intro z e
  cases h with
  | s0 => cases e; exact (gd_string "").good (by decide)
  | s1 => cases e; exact (gd_string "Beats").good (by decide)
  | s2 => cases e; exact (gd_string "befor").good (by decide)
  | _ => cases e
theorem Thing.dd (h : Thing K H v d b) : Dd K H v d := by
  cases h with
  | non => exact .non
  | tru => exact .bl _
  | nil e => exact .lst (SqL.of e) .nil
  | bts e => exact .lst (SqL.of e) (.cons (.str _) .nil)
  | emp e => exact .emp e
  | s0 => exact .str _
  | s1 => exact .str _
  | s2 => exact .str _
  | tup e => exact .tup (SqT.of e) (.cons (.str _) .nil)
theorem Thing.sh (h : Thing K H v d b) (j : Nat) (hj : j < 3) : (PyData.list [.str (tagOf j), d]).showable = true ∧ (PyData.list [.str (tagOf j), d]).depth ≤ 50 ∧ (PyData.list [.str (tagOf j), d]).shown.length ≤ sizeLine := by
  obtain rfl | rfl | rfl : j = 0 ∨ j = 1 ∨ j = 2 := by omega
  all_goals cases h <;> exact ⟨by decide +kernel, by decide +kernel, by decide +kernel⟩
theorem Thing.eqz (h : Thing K H v d b) {Q : VK} (q : Q (.bl b) H) : rEqZ K v (.str "befor") H Q := by
  refine ⟨_, rfl, ?_⟩
  cases h with
  | emp e => exact .inr ⟨_, rfl, e, q⟩
  | non => exact .inl ⟨_, .non, by decide +kernel, by decide +kernel, q⟩
  | tru => exact .inl ⟨_, .bl _, by decide +kernel, by decide +kernel, q⟩
  | nil e => exact .inl ⟨_, .lst (SqL.of e) .nil, by decide +kernel, by decide +kernel, q⟩
  | bts e => exact .inl ⟨_, .lst (SqL.of e) (.cons (.str _) .nil), by decide +kernel, by decide +kernel, q⟩
  | s0 => exact .inl ⟨_, .str _, by decide +kernel, by decide +kernel, q⟩
  | s1 => exact .inl ⟨_, .str _, by decide +kernel, by decide +kernel, q⟩
  | s2 => exact .inl ⟨_, .str _, by decide +kernel, by decide +kernel, q⟩
  | tup e => exact .inl ⟨_, .tup (SqT.of e) (.cons (.str _) .nil), by decide +kernel, by decide +kernel, q⟩
theorem sh4 (a : Bool) : (PyData.list [.bool a, .bool false, .bool false, .bool false]).showable = true ∧ (PyData.list [.bool a, .bool false, .bool false, .bool false]).depth ≤ 50 ∧ (PyData.list [.bool a, .bool false, .bool false, .bool false]).shown.length ≤ sizeLine := by
  cases a <;> exact ⟨by decide +kernel, by decide +kernel, by decide +kernel⟩
end
section
variable {P : Program} {w : World} {K : PySem.W.Frag} {mg : Str → Option Value} {base : Heap}
def spThings : Sp := fun vs H Q _ => vs = [] ∧ ∀ H', Same H H' → Q (.bl true) H'
theorem sc_w_things_right : FnScope ["_law_thing", "_law_found", "_law_word"] [] (defScope s_w_things_right) := ⟨rfl, rfl, rfl, by decide +kernel, rfl, by decide +kernel, by decide +kernel⟩
theorem ok_w_things_right (T : Tx K mg base) : OkG P w K mg base 8 (d_w_things_right.loc K) [] spThings := by
  refine mk_okG (k := 7) T.f_w_things_right sc_w_things_right (fun _ _ _ _ _ _ us hl => match us, hl with | [], _ => rfl) (fun vs H Q E h => ?_) (fun cdv A outer s H vs Q E hgd hr h => ?_)
  · obtain ⟨rfl, _⟩ := h
    rfl
  · obtain ⟨rfl, k⟩ := h
    refine ⟨_, (pss_cons (ps_for (passes_of rfl) rfl (pi_list (pe_lst (pa_cons pe_non (pa_cons pe_bl (pa_cons (pe_lst pa_nil) (pa_cons (pe_lst (pa_cons pe_str pa_nil)) (pa_cons pe_dnewK (pa_cons pe_str (pa_cons pe_str (pa_cons pe_str (pa_cons (pe_tup (pa_cons pe_str pa_nil)) pa_nil))))))))))) (pg_name (i := 0) sc_w_things_right.nd rfl (Or.inl rfl)) (pss_cons (ps_if (PW.pt (pw_or (pt_cmpR op_ne (pe_callB (call_repr hgd hr T.sys) (by rfl) T.b_repr (by decide +kernel) (pa_cons (ok_call (ok_w_told T) (hr.mono (by decide)) rfl T.g_w_told passL (pa_cons pe_int (pa_cons (pv 0) pa_nil))) pa_nil)) (pe_callB (call_repr hgd hr T.sys) (by rfl) T.b_repr (by decide +kernel) (pa_cons (pe_lst (pa_cons pe_str (pa_cons (pv 0) pa_nil))) pa_nil)) (nomark _)) (pw_or1 (pt_cmpR op_ne (pe_callB (call_repr hgd hr T.sys) (by rfl) T.b_repr (by decide +kernel) (pa_cons (ok_call (ok_w_told T) (hr.mono (by decide)) rfl T.g_w_told passL (pa_cons pe_int (pa_cons (pv 0) pa_nil))) pa_nil)) (pe_callB (call_repr hgd hr T.sys) (by rfl) T.b_repr (by decide +kernel) (pa_cons (pe_lst (pa_cons pe_str (pa_cons (pv 0) pa_nil))) pa_nil)) (nomark _))))) (pss_one (ps_ret pe_bl)) pss_nil)
      (pss_cons (ps_if (PW.pt (pw_or (pt_cmpR op_ne (pe_callB (call_repr hgd hr T.sys) (by rfl) T.b_repr (by decide +kernel) (pa_cons (ok_call (ok_w_told T) (hr.mono (by decide)) rfl T.g_w_told passL (pa_cons pe_int (pa_cons (pv 0) pa_nil))) pa_nil)) (pe_callB (call_repr hgd hr T.sys) (by rfl) T.b_repr (by decide +kernel) (pa_cons (pe_lst (pa_cons pe_str (pa_cons (pv 0) pa_nil))) pa_nil)) (nomark _)) (pw_or1 (pt_cmpR op_notN (ok_call (ok_amount_of T) (hr.mono (by decide)) rfl T.g_amount_of passL (pa_cons (pv 0) pa_nil)) pe_non (nomark _))))) (pss_one (ps_ret pe_bl)) pss_nil)
      (pss_cons (ps_set (i := 1) sc_w_things_right.nd rfl (Or.inl rfl) (pe_lst (pa_cons (ok_call (ok_is_name T) (hr.mono (by decide)) rfl T.g_is_name passL (pa_cons (pv 0) pa_nil)) (pa_cons (ok_call (ok_is_unit T) (hr.mono (by decide)) rfl T.g_is_unit passL (pa_cons (pv 0) pa_nil)) (pa_cons (ok_call (ok_is_word T) (hr.mono (by decide)) rfl T.g_is_word passL (pa_cons (pv 0) pa_nil)) (pa_cons (ok_call (ok_is_integer T) (hr.mono (by decide)) rfl T.g_is_integer passL (pa_cons (pv 0) (pa_cons (pe_op op_sub pe_int pe_int) (pa_cons pe_int pa_nil)))) pa_nil))))))
      (pss_one (ps_if (pt_cmpR op_ne (pe_callB (call_repr hgd hr T.sys) (by rfl) T.b_repr (by decide +kernel) (pa_cons (pv 1) pa_nil)) (pe_callB (call_repr hgd hr T.sys) (by rfl) T.b_repr (by decide +kernel) (pa_cons (pe_lst (pa_cons (pe_cmpR (op_eqZ hr.units) (pv 0) pe_str (nomark _)) (pa_cons pe_bl (pa_cons pe_bl (pa_cons pe_bl pa_nil))))) pa_nil)) (nomark _)) (pss_one (ps_ret pe_bl)) pss_nil))))))
      (pss_cons (ps_if (PW.pt (pw_or (pt_cmpR op_notN (ok_call (ok_amount_of T) (hr.mono (by decide)) rfl T.g_amount_of passL (pa_cons pe_int pa_nil)) pe_non (nomark _)) (pw_or1 (pt_cmpR op_notN (ok_call (ok_amount_of T) (hr.mono (by decide)) rfl T.g_amount_of passL (pa_cons (ok_makeD T.mkr_Amount (okd_Amount_init_ T) (hr.mono (by decide)) rfl T.g_Amount (passE rfl rfl rfl rfl) (pa_cons pe_int pa_nil)) pa_nil)) pe_non (nomark _))))) (pss_one (ps_ret pe_bl)) pss_nil)
      (pss_cons (ps_if (pt_cmpR (op_neD hr.units) (pe_lst (pa_cons (ok_call (ok_other_unit T) (hr.mono (by decide)) rfl T.g_other_unit (passE rfl rfl rfl rfl) (pa_cons pe_str pa_nil)) (pa_cons (ok_call (ok_other_unit T) (hr.mono (by decide)) rfl T.g_other_unit (passE rfl rfl rfl rfl) (pa_cons pe_str pa_nil)) pa_nil))) (pe_lst (pa_cons pe_str (pa_cons pe_str pa_nil))) (nomark _)) (pss_one (ps_ret pe_bl)) pss_nil)
      (pss_one (ps_ret (pe_cmpR (op_eqD hr.units) (pe_lc (own := [("_law_word", 2)]) (g := (gName 2)) (tt := tYes) (by rfl) sc_w_things_right.nd (pi_list (pe_lst (pa_cons pe_str (pa_cons pe_str (pa_cons pe_str pa_nil))))) (blkOk_by (own := [("_law_word", 2)]) (N := ["_law_thing", "_law_found", "_law_word"]) (sc := defScope s_w_things_right) (by decide +kernel)) (fun _ _ _ _ _ => (pg_name (i := 2) sc_w_things_right.nd rfl (Or.inl rfl))) (fun _ _ _ _ _ => pts_nil) (fun _ _ _ _ _ => (ok_call (ok_turned T) (hr.mono (by decide)) rfl T.g_turned passL (pa_cons (pv 2) pa_nil)))) (pe_lst (pa_cons pe_str (pa_cons pe_str (pa_cons pe_str pa_nil)))) (nomark _))))))), ?_⟩
    have hsz : sizeLine = 16777216 := sizeLine_eq
    refine ⟨Nat.zero_le _, fun a2 h2 => ⟨(by show 1 ≤ sizeLine; decide), fun a3 h3 => ?_⟩⟩
    refine fun a4 h4 => ⟨(by show 1 ≤ sizeLine; decide), fun a8 h8 => ⟨(by show 9 ≤ sizeLine; decide), fun q hq => ?_⟩⟩
    have v0 : ∃ H0 : Hp, H0 = upd (upd (upd (upd (upd H a2 (.lst [])) a3 (.lst [.str "beats"])) a4 (.dK [])) a8 (.tup [.str "same"])) q (.lst [.non, .bl true, .ref a2, .ref a3, .ref a4, .str "", .str "Beats", .str "befor", .ref a8]) := ⟨_, rfl⟩
    obtain ⟨H0, e0⟩ := v0
    have s0 : Same H H0 := by rw [e0]; exact ((((AT.Same.up h2).trans (AT.Same.up h3)).trans (AT.Same.up h4)).trans (AT.Same.up h8)).trans (AT.Same.up hq)
    have w2 : H0 a2 = some (.lst []) := by rw [e0]; exact AT.Same.up hq _ _ (AT.Same.up h8 _ _ (AT.Same.up h4 _ _ (AT.Same.up h3 _ _ upd_same)))
    have w3 : H0 a3 = some (.lst [.str "beats"]) := by rw [e0]; exact AT.Same.up hq _ _ (AT.Same.up h8 _ _ (AT.Same.up h4 _ _ upd_same))
    have w4 : H0 a4 = some (.dK []) := by rw [e0]; exact AT.Same.up hq _ _ (AT.Same.up h8 _ _ upd_same)
    have w8 : H0 a8 = some (.tup [.str "same"]) := by rw [e0]; exact AT.Same.up hq _ _ upd_same
    have wq : H0 q = some (.lst [.non, .bl true, .ref a2, .ref a3, .ref a4, .str "", .str "Beats", .str "befor", .ref a8]) := by rw [e0]; exact upd_same
    rw [← e0]
    clear e0 hq h8 h4 h3
    refine ⟨q, rfl, ⟨_, SqL.of wq⟩, for_list (xs := [.non, .bl true, .ref a2, .ref a3, .ref a4, .str "", .str "Beats", .str "befor", .ref a8]) (fun i σ' H' => ∃ (o0 o1 : Option V), σ' = ([o0, o1, none] : L2.St) ∧ Same H0 H') ⟨_, _, rfl, Same.refl _⟩ (fun i σ' H' _ h => SqL.of (h.choose_spec.choose_spec.2 _ _ wq)) ?_ ?_⟩
    · rintro i x σ' H' hx ⟨o0, o1, rfl, s1⟩
      obtain ⟨d, b, th⟩ : ∃ d b, Thing K H' x d b := by
        have hm := List.mem_of_getElem? hx
        simp only [List.mem_cons, List.not_mem_nil, or_false] at hm
        rcases hm with rfl | rfl | rfl | rfl | rfl | rfl | rfl | rfl | rfl
        · exact ⟨_, _, .non⟩
        · exact ⟨_, _, .tru⟩
        · exact ⟨_, _, .nil (s1 _ _ w2)⟩
        · exact ⟨_, _, .bts (s1 _ _ w3)⟩
        · exact ⟨_, _, .emp (s1 _ _ w4)⟩
        · exact ⟨_, _, .s0⟩
        · exact ⟨_, _, .s1⟩
        · exact ⟨_, _, .s2⟩
        · exact ⟨_, _, .tup (s1 _ _ w8)⟩
      clear hx
      -- told(0, thing)
      have e1 := th.sh 0 (by decide)
      refine ⟨_, rfl, 0, x, rfl, (by decide), th.any, th.no, th.unit, th.word, fun q1 H1 s2 hq1 => ?_⟩
      have th1 := th.up s2
      refine ⟨_, .list [.str (tagOf 0), d], rfl, .lst (SqL.of hq1) (.cons (.str _) (.cons th1.dd .nil)), e1.1, e1.2.1, e1.2.2, ?_⟩
      refine ⟨_, rfl, (by show 2 ≤ sizeLine; decide), fun q2 hq2 => ?_⟩
      have th2 := th1.up (AT.Same.up (o := .lst [.str "amount", x]) hq2)
      refine ⟨_, .list [.str (tagOf 0), d], rfl, .lst (SqL.of upd_same) (.cons (.str _) (.cons th2.dd .nil)), e1.1, e1.2.1, e1.2.2, rfl, _, rfl, ?_⟩
      rw [decide_eq_true rfl]
      refine iteF ?_
      have e2 := th.sh 1 (by decide)
      refine ⟨_, rfl, 1, x, rfl, (by decide), th2.any, th2.no, th2.unit, th2.word, fun q3 H3 s3 hq3 => ?_⟩
      have th3 := th2.up s3
      refine ⟨_, .list [.str (tagOf 1), d], rfl, .lst (SqL.of hq3) (.cons (.str _) (.cons th3.dd .nil)), e2.1, e2.2.1, e2.2.2, ?_⟩
      refine ⟨_, rfl, (by show 2 ≤ sizeLine; decide), fun q4 hq4 => ?_⟩
      have th4 := th3.up (AT.Same.up (o := .lst [.str "unit", x]) hq4)
      refine ⟨_, .list [.str (tagOf 1), d], rfl, .lst (SqL.of upd_same) (.cons (.str _) (.cons th4.dd .nil)), e2.1, e2.2.1, e2.2.2, rfl, _, rfl, ?_⟩
      rw [decide_eq_true rfl]
      refine iteF ?_
      have e3 := th.sh 2 (by decide)
      refine ⟨_, rfl, 2, x, rfl, (by decide), th4.any, th4.no, th4.unit, th4.word, fun q5 H5 s5 hq5 => ?_⟩
      have th5 := th4.up s5
      refine ⟨_, .list [.str (tagOf 2), d], rfl, .lst (SqL.of hq5) (.cons (.str _) (.cons th5.dd .nil)), e3.1, e3.2.1, e3.2.2, ?_⟩
      refine ⟨_, rfl, (by show 2 ≤ sizeLine; decide), fun q6 hq6 => ?_⟩
      have th6 := th5.up (AT.Same.up (o := .lst [.str "word", x]) hq6)
      refine ⟨_, .list [.str (tagOf 2), d], rfl, .lst (SqL.of upd_same) (.cons (.str _) (.cons th6.dd .nil)), e3.1, e3.2.1, e3.2.2, rfl, _, rfl, ?_⟩
      rw [decide_eq_true rfl]
      refine iteF ?_
      refine ⟨_, rfl, x, rfl, th6.any, th6.good, fun H7 s7 _ => ?_, fun t u p H7 er => absurd (th6.read.symm.trans er) (by simp)⟩
      have th7 := th6.up s7
      refine ⟨rfl, _, rfl, iteF ?_⟩
      -- found
      refine ⟨_, rfl, x, rfl, th7.any, (fun z hz => (th7.good z hz).lt), fun H8 s8 => ?_⟩
      have th8 := th7.up s8
      refine ⟨_, rfl, x, rfl, th8.any, _, rfl, x, rfl, th8.any, _, rfl, _, _, rfl, rfl, x, _, _, rfl, th8.any, (by show 4 ≤ sizeLine; decide), fun q9 hq9 => ?_⟩
      rw [th8.name, th8.unit, th8.word, th8.int]
      have e4 := sh4 b
      have th9 := th8.up (AT.Same.up (o := .lst [.bl b, .bl false, .bl false, .bl false]) hq9)
      refine ⟨_, rfl, _, .list [.bool b, .bool false, .bool false, .bool false], rfl, .lst (SqL.of upd_same) (.cons (.bl _) (.cons (.bl _) (.cons (.bl _) (.cons (.bl _) .nil)))), e4.1, e4.2.1, e4.2.2, ?_⟩
      refine ⟨_, rfl, ?_⟩
      dsimp only [tC]
      refine th9.eqz ?_
      refine ⟨(by show 4 ≤ sizeLine; decide), fun qa hqa => ?_⟩
      refine ⟨_, .list [.bool b, .bool false, .bool false, .bool false], rfl, .lst (SqL.of upd_same) (.cons (.bl _) (.cons (.bl _) (.cons (.bl _) (.cons (.bl _) .nil)))), e4.1, e4.2.1, e4.2.2, rfl, _, rfl, ?_⟩
      rw [decide_eq_true rfl]
      refine iteF ⟨_, _, rfl, ?_⟩
      exact ((((s1.trans s2).trans (AT.Same.up hq2)).trans s3).trans ((AT.Same.up hq4).trans s5)).trans ((((AT.Same.up hq6).trans s7).trans s8).trans ((AT.Same.up hq9).trans (AT.Same.up hqa)))
    · rintro σ' H' ⟨o0, o1, rfl, s1⟩
      refine ⟨.int 5, rfl, .int 5, (fun z hz => nomatch hz), fun H1 s2 _ => ?_, fun t u p H1 er => nomatch er⟩
      refine ⟨rfl, _, rfl, iteF ?_⟩
      refine fun x dx hx hdx hne => ?_
      refine ⟨x, dx, _, _, rfl, upd_same, .int 5, .int 1, md_b (by decide +kernel), (fun e => nomatch e), (fun _ => md_0 (by decide)), ?_⟩
      rintro _ _ ⟨⟩ ⟨⟩ _
      refine ⟨rfl, ?_⟩
      have s3 : Same H1 (upd (upd (upd H1 dx (.own x)) x (.ins (cA K) dx [])) x (.ins (cA K) dx (amtF (lowT 5 1) (lowB 5 1)))) := md_s hx hdx
      refine ⟨.ref x, rfl, .amt ⟨dx, upd_same⟩, (fun z hz => nomatch hz), fun H4 s4 _ => ?_, fun t u p H1 er => nomatch er⟩
      refine ⟨rfl, _, rfl, iteF ?_⟩
      -- other_unit
      refine ⟨.str "beats", rfl, .str _, fun z ez _ => ?_, fun e => absurd e (by decide +kernel)⟩
      cases ez
      refine ⟨.str "seconds", rfl, .str _, fun z ez _ => ?_, fun e => absurd e (by decide +kernel)⟩
      cases ez
      refine ⟨(by show 2 ≤ sizeLine; decide), fun qa hqa => ⟨(by show 2 ≤ sizeLine; decide), fun qb hqb => ?_⟩⟩
      refine ⟨.list [.str "seconds", .str "beats"], .list [.str "seconds", .str "beats"], .lst (SqL.of (AT.Same.up hqb _ _ upd_same)) (.cons (.str _) (.cons (.str _) .nil)), .lst (SqL.of upd_same) (.cons (.str _) (.cons (.str _) .nil)), by decide +kernel, by decide +kernel, _, rfl, ?_⟩
      rw [show PyData.eqv (.list [.str "seconds", .str "beats"]) (.list [.str "seconds", .str "beats"]) = true by decide +kernel]
      refine iteF ?_
      -- turned
      refine ⟨(by show 3 ≤ sizeLine; decide), fun qc hqc => ⟨qc, rfl, ⟨_, SqL.of upd_same⟩, fun D hD => ?_⟩⟩
      have sC : Same H (upd (upd (upd H4 qa (.lst [.str (otherU "beats"), .str (otherU "seconds")])) qb (.lst [.str "seconds", .str "beats"])) qc (.lst [.str "before", .str "same", .str "after"])) := ((((s0.trans s1).trans s2).trans s3).trans s4).trans (((AT.Same.up hqa).trans (AT.Same.up hqb)).trans (AT.Same.up hqc))
      have wc : upd (upd (upd H4 qa (.lst [.str (otherU "beats"), .str (otherU "seconds")])) qb (.lst [.str "seconds", .str "beats"])) qc (.lst [.str "before", .str "same", .str "after"]) qc = some (.lst [.str "before", .str "same", .str "after"]) := upd_same
      generalize upd (upd (upd H4 qa (.lst [.str (otherU "beats"), .str (otherU "seconds")])) qb (.lst [.str "seconds", .str "beats"])) qc (.lst [.str "before", .str "same", .str "after"]) = HC at sC wc hD ⊢
      refine lc_list (K := K) (a := qc) (xs := [.str "before", .str "same", .str "after"]) (fun i H' => Same HC H' ∧ H' D = some (.lst (([V.str "after", V.str "same", V.str "before"] : List V).take i))) ⟨AT.Same.up hD, upd_same⟩ (fun i H' _ h => SqL.of (h.1 _ _ wc)) (fun i x H' hx hP => ?_) (fun H' hP => ?_)
      · obtain ⟨sp, hl⟩ := hP
        refine ⟨rfl, ?_⟩
        dsimp only [tYes]
        have fin : ∀ (z : Str) (y : V), [V.str "after", V.str "same", V.str "before"][i]? = some y → ([V.str "after", V.str "same", V.str "before"].take i).length < sizeLine ∧ ∀ H2 : Hp, Same H' H2 → H2 D = some (.lst ([V.str "after", V.str "same", V.str "before"].take i)) ∧ Same HC (upd H2 D (.lst ([V.str "after", V.str "same", V.str "before"].take i ++ [y]))) ∧ upd H2 D (.lst ([V.str "after", V.str "same", V.str "before"].take i ++ [y])) D = some (.lst ([V.str "after", V.str "same", V.str "before"].take (i + 1))) := by
          intro z y hy
          refine ⟨by rw [List.length_take]; simp only [List.length_cons, List.length_nil]; omega, fun H2 s2 => ⟨s2 _ _ hl, AT.Same.new (sp.trans s2) hD, ?_⟩⟩
          rw [upd_same, List.take_add_one, hy]
          rfl
        refine iteT ?_
        have hi : i < 3 := by
          have := (List.getElem?_eq_some_iff.mp hx).1
          simpa using this
        obtain rfl | rfl | rfl : i = 0 ∨ i = 1 ∨ i = 2 := by omega
        all_goals cases hx
        · refine ⟨_, rfl, .str "before", rfl, .str _, fun z H2 ez _ s2 => ?_, fun e => absurd e (by decide +kernel)⟩
          cases ez
          have fx := fin "" (.str "after") rfl
          exact ⟨_, (fx.2 H2 s2).1, fx.1, (fx.2 H2 s2).2.1, (fx.2 H2 s2).2.2⟩
        · refine ⟨_, rfl, .str "same", rfl, .str _, fun z H2 ez _ s2 => ?_, fun e => absurd e (by decide +kernel)⟩
          cases ez
          have fx := fin "" (.str "same") rfl
          exact ⟨_, (fx.2 H2 s2).1, fx.1, (fx.2 H2 s2).2.1, (fx.2 H2 s2).2.2⟩
        · refine ⟨_, rfl, .str "after", rfl, .str _, fun z H2 ez _ s2 => ?_, fun e => absurd e (by decide +kernel)⟩
          cases ez
          have fx := fin "" (.str "before") rfl
          exact ⟨_, (fx.2 H2 s2).1, fx.1, (fx.2 H2 s2).2.1, (fx.2 H2 s2).2.2⟩
      · obtain ⟨sp, hl⟩ := hP
        refine ⟨(by show 3 ≤ sizeLine; decide), fun qd hqd => ?_⟩
        refine ⟨.list [.str "after", .str "same", .str "before"], .list [.str "after", .str "same", .str "before"], .lst (SqL.of (AT.Same.up hqd _ _ hl)) (.cons (.str _) (.cons (.str _) (.cons (.str _) .nil))), .lst (SqL.of upd_same) (.cons (.str _) (.cons (.str _) (.cons (.str _) .nil))), by decide +kernel, by decide +kernel, ?_⟩
        rw [show PyData.eqv (.list [.str "after", .str "same", .str "before"]) (.list [.str "after", .str "same", .str "before"]) = true by decide +kernel]
        exact k _ ((sC.trans sp).trans (AT.Same.up hqd))
end
end K03

set_option maxHeartbeats 4000000
namespace K03
open PySem PySem.Spec PyProof.Rows L2 AT
theorem same_x {p : Addr} {H H1 H2 : Hp} (s : Same H H1) (hp : H p = none) (x : SameX p H1 H2) : Same H H2 := fun b o e => x b o (ne_of_none e hp) (s b o e)
theorem same_sql {K : PySem.W.Frag} {H H' : Hp} {a : Addr} {xs : List V} (e : Same H H') (h : SqL K H a xs) : SqL K H' a xs := by
  rcases h with (h | ⟨o, h⟩) | h
  · exact .inl (.inl (e _ _ h))
  · exact .inl (.inr ⟨o, e _ _ h⟩)
  · exact .inr h
inductive Odd (H : Hp) : V → Prop
  | no {t : Addr} {z : Str} : H t = some (.tup [.str z, .non]) → Good z → readV (.str z) = none → Odd H (.ref t)
  | yes {t u : Addr} {z : Str} {x y n d : Int} : H t = some (.tup [.str z, .ref u]) → H u = some (.tup [.int n, .int d]) → Good z → readV (.str z) = some (x, y) → lowT x y = n → lowB x y = d → Odd H (.ref t)
theorem Odd.up {H H' : Hp} {v : V} (h : Odd H v) (s : Same H H') : Odd H' v := by
  cases h with
  | no a b c => exact .no (s _ _ a) b c
  | yes a b c d e f => exact .yes (s _ _ a) (s _ _ b) c d e f
section
variable {P : Program} {w : World} {K : PySem.W.Frag} {mg : Str → Option Value} {base : Heap}
def spLaw (K : PySem.W.Frag) : Sp := fun vs H Q _ => ∃ (a : Addr) (ns : List Int), vs = [.ref a] ∧ SqL K H a (ns.map V.int) ∧ ∀ H', Q (.bl true) H'
theorem sc_law : FnScope ["_law_script", "_law_k", "_law_box_here", "_law_odds", "_law_line_here", "_law_due", "_law_found"] ["_law_script"] (defScope s_law) := ⟨rfl, rfl, rfl, by decide +kernel, rfl, by decide +kernel, by decide +kernel⟩
theorem ok_law (T : Tx K mg base) : OkG P w K mg base 9 (d_law.loc K) ["_law_script"] (spLaw K) := by
  refine mk_okG (k := 8) T.f_law sc_law (fun _ _ _ _ _ _ us hl => match us, hl with | [_], _ => rfl) (fun vs H Q E h => ?_) (fun cdv A outer s H vs Q E hgd hr h => ?_)
  · obtain ⟨a, ns, rfl, _⟩ := h
    rfl
  · obtain ⟨a, ns, rfl, hS, k⟩ := h
    refine ⟨_, (pss_cons (ps_for (passes_of rfl) rfl (pi_range1 (by rfl) T.b_range (pa_cons (pe_callB (call_max2 rfl) (by rfl) T.b_max (by decide +kernel) (pa_cons pe_int (pa_cons (pe_callB (call_min2 rfl) (by rfl) T.b_min (by decide +kernel) (pa_cons pe_int (pa_cons (pe_callB call_len_seq (by rfl) T.b_len (by decide +kernel) (pa_cons (pv 0) pa_nil)) pa_nil))) pa_nil))) pa_nil)) (pg_name (i := 1) sc_law.nd rfl (Or.inl rfl)) (pss_cons (ps_set (i := 2) sc_law.nd rfl (Or.inl rfl) (ok_call (ok_w_box T) (hr.mono (by decide)) rfl T.g_w_box passL (pa_cons (ok_call (ok_w_cell T) (hr.mono (by decide)) rfl T.g_w_cell passL (pa_cons (pv 0) (pa_cons (pv 1) pa_nil))) pa_nil)))
      (pss_one (ps_if (PW.pt (pw_or (pt_not (pt_val (ok_call (ok_w_lines_right T) (hr.mono (by decide)) rfl T.g_w_lines_right passL (pa_cons (pv 2) pa_nil)))) (pw_or1 (pt_not (pt_val (ok_callG (ok_w_words_right T) hgd (hr.mono (by decide)) rfl T.g_w_words_right passL (pa_cons (pv 2) pa_nil))))))) (pss_one (ps_ret pe_bl)) pss_nil))))
      (pss_cons (ps_set (i := 3) sc_law.nd rfl (Or.inl rfl) (pe_lst (pa_cons (pe_tup (pa_cons pe_str (pa_cons pe_non pa_nil))) (pa_cons (pe_tup (pa_cons pe_str (pa_cons (pe_tup (pa_cons pe_int (pa_cons pe_int pa_nil))) pa_nil))) (pa_cons (pe_tup (pa_cons pe_str (pa_cons (pe_tup (pa_cons pe_int (pa_cons pe_int pa_nil))) pa_nil))) (pa_cons (pe_tup (pa_cons pe_str (pa_cons pe_non pa_nil))) (pa_cons (pe_tup (pa_cons pe_str (pa_cons pe_non pa_nil))) pa_nil)))))))
      (pss_cons (ps_for (passes_of rfl) rfl (pi_list (pv 3)) (pg_tup rfl (pgs_cons (pg_name (i := 4) sc_law.nd rfl (Or.inl rfl)) (pgs_cons (pg_name (i := 5) sc_law.nd rfl (Or.inl rfl)) pgs_nil))) (pss_cons (ps_set (i := 6) sc_law.nd rfl (Or.inl rfl) (ok_call (ok_amount_of T) (hr.mono (by decide)) rfl T.g_amount_of passL (pa_cons (pv 4) pa_nil)))
      (pss_one (ps_if (pt_cmpR (op_neD hr.units) (pe_ifExp (pt_cmpR op_isN (pv 6) pe_non (nomark _)) pe_non (pe_tup (pa_cons (ok_prop T.cls_Amount T.pr_Amount_top (ok_Amount_top T) (hr.mono (by decide)) (pv 6)) (pa_cons (ok_prop T.cls_Amount T.pr_Amount_bottom (ok_Amount_bottom T) (hr.mono (by decide)) (pv 6)) pa_nil)))) (pv 5) (nomark _)) (pss_one (ps_ret pe_bl)) pss_nil))))
      (pss_one (ps_ret (ok_callG0 (ok_w_things_right T) hgd (hr.mono (by decide)) rfl T.g_w_things_right passL)))))), ?_⟩
    have hsz : sizeLine = 16777216 := sizeLine_eq
    refine ⟨_, rfl, a, _, rfl, .inl hS, _, _, rfl, _, _, rfl, ?_⟩
    have hm : ∃ m : Int, m = (if (if ((ns.map V.int).length : Int) < 8 then ((ns.map V.int).length : Int) else 8) > 2 then (if ((ns.map V.int).length : Int) < 8 then ((ns.map V.int).length : Int) else 8) else 2) ∧ 0 ≤ m ∧ m ≤ 8 := by
      refine ⟨_, rfl, ?_, ?_⟩ <;> split <;> split <;> omega
    obtain ⟨m, em, m0, m8⟩ := hm
    refine ⟨m, (by rw [em]), (by omega), (by omega), for_range (lo := 0) (n := m.toNat) (fun i σ' H' => ∃ (o1 o2 : Option V), σ' = ([some (.ref a), o1, o2, none, none, none, none] : L2.St) ∧ Same H H') ⟨_, _, rfl, Same.refl _⟩ ?_ ?_⟩
    · rintro i σ' H' hi ⟨o1, o2, rfl, s1⟩
      refine ⟨_, rfl, _, rfl, a, ns, i, (by rw [Int.zero_add]; rfl), same_sql s1 hS, (by omega), fun c => ?_⟩
      refine ⟨c, rfl, fun p H1 s2 hp b1 => ?_⟩
      refine ⟨_, rfl, p, 0, rfl, b1, (by decide), fun H2 x2 b2 => ?_⟩
      refine ⟨_, rfl, iteF ?_⟩
      refine ⟨_, rfl, p, 20, rfl, b2, (by decide), fun H3 x3 => ?_⟩
      exact ⟨_, rfl, iteF ⟨_, _, rfl, s1.trans (same_x s2 hp (x2.trans x3))⟩⟩
    · rintro σ' H' ⟨o1, o2, rfl, s1⟩
      refine ⟨(by show 2 ≤ sizeLine; decide), fun t1 h1 => ?_⟩
      refine ⟨(by show 2 ≤ sizeLine; decide), fun u2 g2 => ⟨(by show 2 ≤ sizeLine; decide), fun t2 h2 => ?_⟩⟩
      refine ⟨(by show 2 ≤ sizeLine; decide), fun u3 g3 => ⟨(by show 2 ≤ sizeLine; decide), fun t3 h3 => ?_⟩⟩
      refine ⟨(by show 2 ≤ sizeLine; decide), fun t4 h4 => ⟨(by show 2 ≤ sizeLine; decide), fun t5 h5 => ?_⟩⟩
      refine ⟨(by show 5 ≤ sizeLine; decide), fun q hq => ?_⟩
      have v0 : ∃ H0 : Hp, H0 = upd (upd (upd (upd (upd (upd (upd (upd H' t1 (.tup [.str "-0", .non])) u2 (.tup [.int 0, .int 1])) t2 (.tup [.str "0/7", .ref u2])) u3 (.tup [.int 999999, .int 1000])) t3 (.tup [.str "999999/1000", .ref u3])) t4 (.tup [.str "1/1001", .non])) t5 (.tup [.str "1000000", .non])) q (.lst [.ref t1, .ref t2, .ref t3, .ref t4, .ref t5]) := ⟨_, rfl⟩
      obtain ⟨H0, e0⟩ := v0
      have y5 : Same _ H0 := (e0 ▸ AT.Same.up hq)
      have w5 : H0 t5 = _ := y5 _ _ upd_same
      have y4 := (AT.Same.up h5).trans y5
      have w4 : H0 t4 = _ := y4 _ _ upd_same
      have y3 := (AT.Same.up h4).trans y4
      have w3 : H0 t3 = _ := y3 _ _ upd_same
      have z3 := (AT.Same.up h3).trans y3
      have r3 : H0 u3 = _ := z3 _ _ upd_same
      have y2 := (AT.Same.up g3).trans z3
      have w2 : H0 t2 = _ := y2 _ _ upd_same
      have z2 := (AT.Same.up h2).trans y2
      have r2 : H0 u2 = _ := z2 _ _ upd_same
      have y1 := (AT.Same.up g2).trans z2
      have w1 : H0 t1 = _ := y1 _ _ upd_same
      have wq : H0 q = some (.lst [.ref t1, .ref t2, .ref t3, .ref t4, .ref t5]) := by rw [e0]; exact upd_same
      rw [← e0]
      clear e0 y5 y4 y3 z3 y2 z2 y1
      refine ⟨_, rfl, q, rfl, ⟨_, SqL.of wq⟩, for_list (xs := [.ref t1, .ref t2, .ref t3, .ref t4, .ref t5]) (fun i σ' H' => ∃ (o4 o5 o6 : Option V), σ' = ([some (.ref a), o1, o2, some (.ref q), o4, o5, o6] : L2.St) ∧ Same H0 H') ⟨_, _, _, rfl, Same.refl _⟩ (fun i σ' H' _ h => SqL.of (h.choose_spec.choose_spec.choose_spec.2 _ _ wq)) ?_ ?_⟩
      · rintro i x σ' H3 hx ⟨o4, o5, o6, rfl, s3⟩
        have od : Odd H3 x := by
          refine Odd.up ?_ s3
          have hm := List.mem_of_getElem? hx
          simp only [List.mem_cons, List.not_mem_nil, or_false] at hm
          rcases hm with rfl | rfl | rfl | rfl | rfl
          · exact .no w1 ((gd_string "-0").good (by decide)) (by decide +kernel)
          · exact .yes w2 r2 ((gd_string "0/7").good (by decide)) (x := 0) (y := 7) (by decide +kernel) (by decide +kernel) (by decide +kernel)
          · exact .yes w3 r3 ((gd_string "999999/1000").good (by decide)) (x := 999999) (y := 1000) (by decide +kernel) (by decide +kernel) (by decide +kernel)
          · exact .no w4 ((gd_string "1/1001").good (by decide)) (by decide +kernel)
          · exact .no w5 ((gd_string "1000000").good (by decide)) (by decide +kernel)
        clear hx
        cases od with
        | @no t z ht gz hr =>
          refine ⟨t, _, rfl, SqT.of ht, rfl, _, _, rfl, _, _, rfl, rfl, ?_⟩
          refine ⟨_, rfl, .str z, rfl, .str z, (fun z' e => by cases e; exact gz), fun H4 s4 _ => ?_, fun _ _ _ _ e => absurd (hr.symm.trans e) (by simp)⟩
          refine ⟨_, rfl, rfl, _, rfl, iteT ?_⟩
          refine ⟨_, rfl, .none, .none, .non, .non, by decide +kernel, by decide +kernel, _, rfl, ?_⟩
          exact iteF ⟨_, _, _, rfl, s3.trans s4⟩
        | @yes t u z x y n d ht hu gz hr hn hd =>
          refine ⟨t, _, rfl, SqT.of ht, rfl, _, _, rfl, _, _, rfl, rfl, ?_⟩
          refine ⟨_, rfl, .str z, rfl, .str z, (fun z' e => by cases e; exact gz), fun H4 s4 e => absurd (hr.symm.trans e) (by simp), fun x' y' f H4 e s4 hf hA => ?_⟩
          have exy := hr.symm.trans e
          cases exy
          rw [hn, hd] at hA
          obtain ⟨df, hdf⟩ := id hA
          refine ⟨_, rfl, rfl, _, rfl, iteF ?_⟩
          refine ⟨_, rfl, f, df, _, rfl, hdf, f, n, d, rfl, hA, _, rfl, f, df, _, rfl, hdf, f, n, d, rfl, hA, (by show 2 ≤ sizeLine; decide), fun T1 hT1 => ?_⟩
          refine ⟨_, rfl, .tuple [.int n, .int d], .tuple [.int n, .int d], .tup (SqT.of upd_same) (.cons (.int _) (.cons (.int _) .nil)), .tup (SqT.of (AT.Same.up hT1 _ _ (s4 _ _ hu))) (.cons (.int _) (.cons (.int _) .nil)), rfl, rfl, _, rfl, ?_⟩
          rw [show PyData.eqv (.tuple [.int n, .int d]) (.tuple [.int n, .int d]) = true by simp [PyData.eqv, PyData.eqvAll]]
          exact iteF ⟨_, _, _, rfl, (s3.trans s4).trans (AT.Same.up hT1)⟩
      · rintro σ' H3 ⟨o4, o5, o6, rfl, s3⟩
        exact ⟨rfl, fun H4 _ => k H4⟩
end
end K03

set_option maxHeartbeats 0
namespace K03
open PySem PySem.Spec PyProof.Rows L2 AT
abbrev R : PySem.W.OpenRow := PySem.W.OpenLaw.row PySem.Challenge.rw_anytempo_k03_amounts_as_strings
abbrev hk : PySem.W.Hook := hookA 5 fn ex
def ob (s : PySem.W.SharedT) : AlA := obsAG 5 fn ex (HandSHeadRun.getT s)
theorem ob_eq (s : PySem.W.SharedT) : ob s = hk.obs s.abs := obsAG_eq (HandSHeadRun.getT_eq s)
theorem run (w : World) : HandSHeadRun.RunEq R (PySem.W.view R.prog [lawAt]) hk ob 20000 names w := by
  intro os
  kernel_rfl
end K03

set_option maxHeartbeats 0
open PySem PySem.W PySem.Calls PyProof.Rows
theorem PySem.Challenge.cw_anytempo_k03_amounts_as_strings_holds : PySem.Challenge.rw_anytempo_k03_amounts_as_strings.Holds := by
  w_on; o_law
  refine HandSHeadRun.head_any (r := OpenLaw.row PySem.Challenge.rw_anytempo_k03_amounts_as_strings) (q := view (OpenLaw.row PySem.Challenge.rw_anytempo_k03_amounts_as_strings).prog [K03.lawAt]) (H := K03.hk) (ob := K03.ob) (M := 20000) (loose := K03.names) (d := HandSHeadRun.topDef (OpenLaw.row PySem.Challenge.rw_anytempo_k03_amounts_as_strings).prog K03.lawAt) (kwd := []) K03.ob_eq
    (by kernel_rfl) (fun s => by kernel_rfl) K03.run (by kernel_rfl) (by kernel_rfl) (by kernel_rfl) (by rfl) (by first | assumption | decide +kernel) (by decide +kernel) ⟨rfl, rfl, rfl, rfl, rfl, by decide +kernel⟩ ?hw ?hc
  case hw => w_witness2
  case hc =>
    refine AT.walkO (l := PySem.Challenge.rw_anytempo_k03_amounts_as_strings) (n := 63) (k := 9) (x := "_law_script") (CX := fun w => L2.CX PySem.Challenge.rw_anytempo_k03_amounts_as_strings.prog w) rfl (by decide) (by kernel_rfl) ⟨rfl, by decide, by decide⟩ ?F (fun w H s e s' z => AT.cx_false z)
    intro w mg fa h Y G hmg0
    obtain ⟨K, KX, c⟩ := Y
    have e : (HandSHeadRun.topDef (OpenLaw.row PySem.Challenge.rw_anytempo_k03_amounts_as_strings).prog K03.lawAt).name = ("law" : PySem.Str) := by kernel_rfl
    rw [e] at hmg0
    have T : K03.Tx K mg h := ⟨c, KX, G⟩
    have e2 := hmg0.symm.trans T.g_law
    cases e2
    refine ⟨K, K03.spLaw K, KX, fun H a ns hl _ hS => ⟨a, ns, rfl, hS, fun _ => rfl⟩, fun base kb gb => ?_⟩
    obtain ⟨fd, hF, hb, _⟩ := K03.ok_law (P := PySem.Challenge.rw_anytempo_k03_amounts_as_strings.prog) (w := w) ⟨c, kb, gb⟩
    exact ⟨fd, hF, hb⟩

