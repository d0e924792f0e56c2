import PyProof.Rows.All
import Wide.All
import OpenK.AllK
import Wide.FinOn
import PyProof.ReprRoads
import HandS.ForMost
import HandS.ForExc
import HandS.ExcInit
import HandS.ExcField
import HandS.ExcIs
import HandS.TryMany
import HandS.IsInst
import HandS.Defaults
import HandS.Property
import HandS.Wide
import HandS.FStr
import HandS.StrMore
import HandS.Steps
import HandS.CallSlots
import HandS.Head0
import HandS.Head1
import HandS.Head2
import HandS.HeadEnd
import HandS.HeadHook1
import HandS.HeadHook2
import HandS.ClsMeth
import HandS.Walk
import KE.KOpsOwn
import HandS.OwnEq
import PyProof.NeKinds
import KE.GoesMore
import HandS.Zip
import HandS.Evl
import HandS.DictComp
import HandS.Star
import HandS.Deep
import HandS.TupAny
import HandS.Rev
import HandS.Iter
import PyProof.ListRange
import PyProof.ExcBaseAll.LookupError
import PyProof.StrBlock2
import KE.DataFind
import KE.IntTextLaws
import HandS.Conv
import HandS.Codes
import HandS.TryOnly
import PySem.Challenge.RW_anytempo_k34_sheets_turned_and_joined
set_option Elab.async false
set_option linter.all false
set_option maxRecDepth 100000
set_option maxHeartbeats 4000000
namespace AT
open PySem PySem.Spec PyProof.Rows L2
/-! ### the hook: facts of what the top leaves -/
def asA (g : Addr → Option Obj) : Nat → List Addr
  | 0 => [mainGlobals, cStatics]
  | n + 1 => He.growD g (asA g n)
/-- one def: where it stands, its name, qualified name, parameters, body, scope, defaults, keyword-only defaults -/
structure FD where
  loc : PySem.W.Frag → Addr
  name : Str
  qual : Str
  params : Arguments
  body : List Stmt
  scope : Scope
  dfl : List He.Dv := []
  kwd : List (Str × He.Dv) := []
def fdOf (loc : PySem.W.Frag → Addr) (name qual : Str) (st : Stmt) (dfl : List He.Dv := []) (kwd : List (Str × He.Dv) := []) : FD := ⟨loc, name, qual, defArgs st, defBody st, defScope st, dfl, kwd⟩
def fobs (K : PySem.W.Frag) (a : Addr) : He.FnW := match K.lookup a with
  | some ⟨_, _, .func u, _⟩ => some (u.name, u.qualname, u.params, u.body, u.scope, u.globals, u.closure, u.builtins)
  | _ => none
def FD.val (d : FD) : He.FnW := some (d.name, d.qual, d.params, .stmts d.body, d.scope, mainGlobals, [], builtinsNs)
def FD.dvs (K : PySem.W.Frag) (d : FD) : List V := d.dfl.map (He.Dv.v K)
def FD.kws (K : PySem.W.Frag) (d : FD) : List (Str × V) := d.kwd.map fun z => (z.1, z.2.v K)
def FD.ok (K : PySem.W.Frag) (d : FD) : Bool := PySem.W.keepIn K (.ref (d.loc K)) && (match K.lookup (d.loc K) with
  | some ⟨_, _, .func u, _⟩ => PySem.W.codeIn K u.code d.qual && (He.dflB K u.defaults (d.dvs K) && He.kwdB K u.kwdefaults (d.kws K))
  | _ => false)
theorem FD.funD {K : PySem.W.Frag} {d : FD} (e : fobs K (d.loc K) = d.val) (c : d.ok K = true) : ∃ fd, FunD K d.name d.qual d.params d.body d.scope (d.dvs K) (d.kws K) (d.loc K) fd := by
  obtain ⟨kp, c2⟩ := He.ba c
  unfold fobs at e
  cases hl : K.lookup (d.loc K) with
  | none =>
    rw [hl] at c2
    cases c2
  | some o =>
    obtain ⟨oc, od, dt, osl⟩ := o
    rw [hl] at c2 e
    cases dt with
    | func u =>
      obtain ⟨u1, u2, u3, u4, u5, u6, u7, u8, u9, u10, u11, u12, u13, u14, u15⟩ := u
      have e2 : (some (u1, u2, u3, u4, u5, u6, u7, u15) : He.FnW) = some (d.name, d.qual, d.params, .stmts d.body, d.scope, mainGlobals, [], builtinsNs) := e
      simp only [Option.some.injEq, Prod.mk.injEq] at e2
      obtain ⟨rfl, rfl, rfl, rfl, rfl, rfl, rfl, rfl⟩ := e2
      obtain ⟨k1, k2⟩ := He.ba (show (PySem.W.codeIn K u13 d.qual && (He.dflB K u8 (d.dvs K) && He.kwdB K u9 (d.kws K))) = true from c2)
      obtain ⟨k3, k4⟩ := He.ba k2
      exact ⟨_, ⟨oc, od, u8, u9, u10, u11, u12, u13, u14, osl, rfl, hl, k1, He.dflB_ok k3, He.kwdB_ok k4⟩, kp⟩
    | _ => cases c2
/-- the getter of a property of the class x -/
def propAt (x f : Str) (K : PySem.W.Frag) : Addr := match PySem.W.findIn K (.ref (He.ga K x)) f with
  | some (some (.ref p)) => (match PySem.W.recIn K p "property" with
    | some (.ref g :: _) => g
    | _ => 0)
  | _ => 0
abbrev AlA : Type := Bool × List He.FnW
abbrev Ex := List (PySem.W.Frag → Bool)
def obsA (fn : List FD) (ex : Ex) (K : PySem.W.Frag) : AlA :=
  (ex.all (fun e => e K) && fn.all (fun d => d.ok K), fn.map fun d => fobs K (d.loc K))
def valA (fn : List FD) : AlA := (true, fn.map FD.val)
def SaysA (fn : List FD) (ex : Ex) (K : PySem.W.Frag) : Prop := obsA fn ex K = valA fn
def obsAG (n : Nat) (fn : List FD) (ex : Ex) (g : Addr → Option Obj) : AlA := obsA fn ex (He.frG g (sysModules :: asA g n))
def hookA (n : Nat) (fn : List FD) (ex : Ex) : PySem.W.Hook where
  α := AlA
  obs := fun s => obsAG n fn ex s.heap.get?
  val := fun _ => valA fn
  says := fun _ h => ∃ K : PySem.W.Frag, K.In h ∧ SaysA fn ex K
  of := fun _ _ e => ⟨_, He.frG_in, e⟩
  keeps := fun _ _ _ ⟨K, hK, c⟩ k => ⟨K, PySem.W.Frag.In.keeps hK k, c⟩
theorem obsAG_eq {n : Nat} {fn : List FD} {ex : Ex} {g : Addr → Option Obj} {s : Shared} (h : ∀ a, g a = s.heap.get? a) : obsAG n fn ex g = (hookA n fn ex).obs s := by
  have q : g = s.heap.get? := funext h
  subst q
  rfl
section
variable {fn : List FD} {ex : Ex} {K : PySem.W.Frag}
theorem SaysA.more (c : SaysA fn ex K) (i : Nat) {e : PySem.W.Frag → Bool} (h : ex[i]? = some e := by rfl) : e K = true :=
  List.all_eq_true.mp (He.ba (congrArg (fun z : AlA => z.1) c)).1 e (List.mem_of_getElem? h)
theorem SaysA.fun_ (c : SaysA fn ex K) (i : Nat) {d : FD} (h : fn[i]? = some d := by rfl) : ∃ fd, FunD K d.name d.qual d.params d.body d.scope (d.dvs K) (d.kws K) (d.loc K) fd := by
  have c2 := (He.ba (show (ex.all (fun e => e K) && fn.all (fun d => d.ok K)) = true from congrArg (fun z : AlA => z.1) c)).2
  have e2 : (fn.map fun d => fobs K (d.loc K))[i]? = (fn.map FD.val)[i]? := congrArg (fun z : AlA => z.2[i]?) c
  rw [List.getElem?_map, List.getElem?_map, h] at e2
  exact FD.funD (Option.some.inj e2) (List.all_eq_true.mp c2 d (List.mem_of_getElem? h))
end
/-! ### facts of the module's names -/
def gloB (x : Str) (K : PySem.W.Frag) : Bool := He.eqO (PySem.W.nsIn K mainGlobals x) (some (some (.ref (He.ga K x))))
def freeB (x : Str) (K : PySem.W.Frag) : Bool := He.eqO (PySem.W.nsIn K mainGlobals x) (some none)
def conB (x : Str) (v : V) (K : PySem.W.Frag) : Bool := match PySem.W.nsIn K mainGlobals x with
  | some (some u) => He.relB v u
  | _ => false
theorem conB_ok {K : PySem.W.Frag} {h : Heap} {mg : Str → Option Value} {x : Str} {v : V} (X : K.In h) (G : h.Ns mainGlobals mg) (c : conB x v K = true) : ∃ u, mg x = some u ∧ RelV v u := by
  unfold conB at c
  split at c
  · rename_i u hu
    exact ⟨u, PySem.W.mg_of X G hu, He.relB_ok c⟩
  · cases c
def clsB (x : Str) (K : PySem.W.Frag) : Bool := (He.Fa.cls x).ok K
def noatB (x f : Str) (K : PySem.W.Frag) : Bool := (He.Fa.noat x f).ok K
def methB (x f : Str) (K : PySem.W.Frag) : Bool := (He.Fa.meth x f).ok K
def mkrB (x : Str) (K : PySem.W.Frag) : Bool := (He.Fa.mkr x).ok K
def exmB (x y : Str) (b : Bool) (K : PySem.W.Frag) : Bool := (He.Fa.exm x y b).ok K
def lstB (x : Str) (vs : List He.Dv) (K : PySem.W.Frag) : Bool := He.lstB K x vs
/-- a property of the class x: PropOf -/
def propB (x f : Str) (K : PySem.W.Frag) : Bool := match PySem.W.findIn K (.ref (He.ga K x)) f with
  | some (some (.ref p)) => He.eqO (PySem.W.specialIn K (.ref p) "__get__") (some (some (.builtin "property.__get__"))) && (decide (PySem.W.takesIn K (.ref p) = some true) && (match PySem.W.recIn K p "property" with
    | some (.ref _ :: _) => true
    | _ => false))
  | _ => false
theorem propB_ok {K : PySem.W.Frag} {x f : Str} (h : propB x f K = true) : ∃ p, PropOf K (He.ga K x) f p (propAt x f K) := by
  unfold propB at h
  split at h
  · rename_i p hp
    obtain ⟨h1, h⟩ := He.ba h
    obtain ⟨h2, h3⟩ := He.ba h
    split at h3
    · rename_i g rest hr
      have e : propAt x f K = g := by
        unfold propAt
        rw [hp]
        simp only [hr]
      exact ⟨p, hp, He.eqO_ok h1, of_decide_eq_true h2, rest, by rw [e]; exact hr⟩
    · cases h3
  · cases h
/-- isinstance of instances of the own class x -/
def insB (x : Str) (K : PySem.W.Frag) : Bool := He.eqO (PySem.W.findIn K (.ref (He.ga K x)) "__class__") (some (some (.builtin "object.__class__"))) &&
  (He.eqO (PySem.W.specialIn K (.builtin "object.__class__") "__get__") (some (some (.builtin "getset_descriptor.__get__"))) &&
  (decide (PySem.W.takesIn K (.builtin "object.__class__") = some true) && decide (PySem.W.mroIn K (He.ga K x) (.type "object") = some true)))
theorem insB_ok {K : PySem.W.Frag} {x : Str} (h : insB x K = true) (c : Cls K (He.ga K x)) {H : Hp} {a dx : Addr} {fs : List (Str × V)} (e : H a = some (.ins (He.ga K x) dx fs)) : TyX K H (.ref a) (.ref (He.ga K x)) := by
  obtain ⟨h1, h⟩ := He.ba h
  obtain ⟨h2, h⟩ := He.ba h
  obtain ⟨h3, h4⟩ := He.ba h
  exact .base (.ins e c (He.eqO_ok h1) (He.eqO_ok h2) (of_decide_eq_true h3) (of_decide_eq_true h4))
/-- isinstance of a value of the type t (built-in, by name; "" : the own class x) with the class c -/
def kitB (t : PySem.W.Frag → Value) (c : PySem.W.Frag → Value) (b : Bool) (K : PySem.W.Frag) : Bool := decide (PySem.W.kitOne K (t K) (c K) = some b)
theorem kitB_ok {K : PySem.W.Frag} {t c : PySem.W.Frag → Value} {b : Bool} (h : kitB t c b K = true) : PySem.W.kitOne K (t K) (c K) = some b := of_decide_eq_true h
/-- sys.modules stands in the part that is looked at -/
def sysB (K : PySem.W.Frag) : Bool := match K.lookup sysModules with
  | some ⟨.type c, _, _, _⟩ => decide (c = "dict")
  | _ => false
theorem sysB_ok {K : PySem.W.Frag} (h : sysB K = true) : ∃ o, K.lookup sysModules = some o ∧ o.cls = .type "dict" := by
  unfold sysB at h
  split at h
  · rename_i c dd dt sl ho
    exact ⟨_, ho, congrArg Value.type (of_decide_eq_true h)⟩
  · cases h
/-! ### exception classes: what is looked at -/
/-- an own class over ValueError with its own __init__, with the base class at B of the package -/
def excB (K : PySem.W.Frag) (C : Addr) : Bool := match K.lookup C with
  | some ⟨.type t, _, .cls cd, sl⟩ => (match cd.mro, sl.toList with
    | .ref D :: bm, [_, _, _, _, some (.builtin n), _] => decide (t = "type") && (decide (D = C) && (decide (n = "ValueError.__new__") && (!cd.hasDel && (cd.hasDict && HandSPX.refsVE bm))))
    | _, _ => false)
  | _ => false
theorem excB_ok {K : PySem.W.Frag} {C : Addr} (h : excB K C = true) :
    ∃ nm q N bs bm sn sub ab col dd k0 k1 k2 k3 k5, K.lookup C = some (excClassObj nm q C N bs bm true sn sub ab col dd k0 k1 k2 k3 k5 "ValueError.__new__") ∧ PySem.HandSPX.refsVE bm = true := by
  unfold excB at h
  split at h
  · rename_i t dd cd sl ho
    split at h
    · rename_i D bm k0 k1 k2 k3 n k5 hm hs
      simp only [Bool.and_eq_true, decide_eq_true_eq, Bool.not_eq_true'] at h
      obtain ⟨rfl, rfl, rfl, hdel, hdic, ht⟩ := h
      obtain ⟨nm, bs, mro, ns, qn, hd, sn, sub, ab, col, del⟩ := cd
      dsimp only at hm hdel hdic
      subst hm hdel hdic
      have hsl : sl = #[k0, k1, k2, k3, some (.builtin "ValueError.__new__"), k5] := by
        obtain ⟨l⟩ := sl
        simp only at hs
        rw [hs]
      subst hsl
      exact ⟨nm, qn, ns, bs, bm, sn, sub, ab, col, dd, k0, k1, k2, k3, k5, ho, ht⟩
    · cases h
  · cases h
/-- all that is asked of an exception class x with the field f -/
def xcB (K : PySem.W.Frag) (x f : Str) : Bool :=
  excB K (He.ga K x) && (He.eqO (PySem.W.findIn K (.ref (He.ga K x)) "__setattr__") (some (some (.builtin "object.__setattr__"))) &&
  (decide (PySem.W.subIn K (.ref (He.ga K x)) (.type "BaseException") = some true) && (decide (PySem.W.typeIn K (.ref (He.ga K x)) = some (.type "type")) &&
  (PySem.W.keepIn K (.ref (He.ga K x)) && (He.eqO (PySem.W.findIn K (.ref (He.ga K x)) f) (some none) && (xfB K (He.ga K x) &&
  (He.eqO (PySem.W.findIn K (.ref (He.ga K x)) "__init__") (some (some (.ref (He.ma K (He.ga K x) "__init__")))) &&
  (decide (PySem.W.typeIn K (.ref (He.ma K (He.ga K x) "__init__")) = some (.type "function")) &&
  He.eqO (PySem.W.nsIn K mainGlobals x) (some (some (.ref (He.ga K x)))))))))))) 
structure Xc (K : PySem.W.Frag) (x f : Str) : Prop where
  oex : OexC K (He.ga K x)
  xf : XfC K (He.ga K x)
  no : PySem.W.findIn K (.ref (He.ga K x)) f = some none
  ini : PySem.W.findIn K (.ref (He.ga K x)) "__init__" = some (some (.ref (He.ma K (He.ga K x) "__init__")))
  tyi : PySem.W.typeIn K (.ref (He.ma K (He.ga K x) "__init__")) = some (.type "function")
  glo : PySem.W.nsIn K mainGlobals x = some (some (.ref (He.ga K x)))
theorem xcB_ok {K : PySem.W.Frag} {x f : Str} (h : xcB K x f = true) : Xc K x f := by
  obtain ⟨h1, h⟩ := He.ba h
  obtain ⟨h2, h⟩ := He.ba h
  obtain ⟨h3, h⟩ := He.ba h
  obtain ⟨h4, h⟩ := He.ba h
  obtain ⟨h5, h⟩ := He.ba h
  obtain ⟨h6, h⟩ := He.ba h
  obtain ⟨h7, h⟩ := He.ba h
  obtain ⟨h8, h⟩ := He.ba h
  obtain ⟨h9, h10⟩ := He.ba h
  exact ⟨⟨excB_ok h1, He.eqO_ok h2, of_decide_eq_true h3, of_decide_eq_true h4, h5⟩, xfB_ok h7, He.eqO_ok h6, He.eqO_ok h8, of_decide_eq_true h9, He.eqO_ok h10⟩
def valB (c : Option PySem.W.CFound) (u : Value) : Bool := match c with
  | some (.val v) => decide (v = u)
  | _ => false
theorem valB_ok {c : Option PySem.W.CFound} {u : Value} (h : valB c u = true) : c = some (.val u) := by
  unfold valB at h
  split at h
  · rw [of_decide_eq_true h]
  · cases h
/-- the base class of the package: B.__init__ is ValueError's -/
def baB (K : PySem.W.Frag) (B : Str) : Bool :=
  PySem.W.readsIn K (He.ga K B) (.type "type") && (He.eqO (PySem.W.specialIn K (.ref (He.ga K B)) "__getattribute__") (some (some (.builtin "type.__getattribute__"))) &&
  (valB (PySem.W.findCls K (.ref (He.ga K B)) (.type "type") "__init__") (.builtin "ValueError.__init__") &&
  He.eqO (PySem.W.nsIn K mainGlobals B) (some (some (.ref (He.ga K B))))))
structure Ba (K : PySem.W.Frag) (B : Str) : Prop where
  rd : PySem.W.readsIn K (He.ga K B) (.type "type") = true
  ga : PySem.W.specialIn K (.ref (He.ga K B)) "__getattribute__" = some (some (.builtin "type.__getattribute__"))
  ini : PySem.W.findCls K (.ref (He.ga K B)) (.type "type") "__init__" = some (.val (.builtin "ValueError.__init__"))
  glo : PySem.W.nsIn K mainGlobals B = some (some (.ref (He.ga K B)))
theorem baB_ok {K : PySem.W.Frag} {B : Str} (h : baB K B = true) : Ba K B := by
  obtain ⟨h1, h⟩ := He.ba h
  obtain ⟨h2, h⟩ := He.ba h
  obtain ⟨h3, h4⟩ := He.ba h
  exact ⟨h1, He.eqO_ok h2, valB_ok h3, He.eqO_ok h4⟩
end AT

set_option maxHeartbeats 4000000
namespace AT
open PySem PySem.Spec PyProof.Rows L2
section
variable {X : Cx} {e : Expr} {es : List Expr} {ta : TA} {B : Str} {p1 p2 pos : Pos}
/-- B.__init__(self, ..), B an own class over ValueError -/
theorem pe_cinit {look : Sem Bool} (T : Ba X.K B) (hB : Gl X B) (hmB : X.mg B = some (.ref (He.ga X.K B))) (hA : PA X (e :: es) ta)
    (hev : eval (.Call (.Attribute (.Name B p1) "__init__" p2) (e :: es) [] pos) X.env = (do
      let cv ← eval (.Name B p1) X.env
      standAt p2.atName
      let (fv, frst) ← holding [cv] (getMethod cv "__init__" look)
      callWith pos fv frst (backTo pos (starEach (e :: es) X.env)) (backToKw pos (keywordEach [] X.env))) := by rfl)
    (hdb : (B == ("__debug__" : Str)) = false := by decide)
    (hst : starEach (e :: es) X.env = (false, eval e X.env) :: starEach es X.env := by rfl) (hns : (backTo pos (starEach es X.env)).any (·.1) = false := by rfl) :
    PE X (.Call (.Attribute (.Name B p1) "__init__" p2) (e :: es) [] pos) (tVeI X.K ta) := by
  constructor
  intro pins s σ H Q I h
  refine PySem.W.methodCall_KW (ld_glob I hB hmB ?_ hdb) hev
  refine PySem.W.method_cls I.kIn T.ga (PySem.W.cls_value I.kIn T.rd T.ini (by decide +kernel) ?_)
  show wpAny _ _ (callWith pos (Value.builtin "ValueError.__init__") [] (backTo pos (starEach (e :: es) X.env)) []) _ _ _
  refine PyProof.Rows.callWith_method1 (thn (hA.run pos pins _ σ H _ (I.tok _) h) fun vals s1 ⟨vs, H1, I1, r1, a, C, ws, ev, hl, To, ea, q⟩ => ?_) hst hns
  subst ev
  cases r1 with
  | @cons _ v0 _ vr ra rr =>
    obtain rfl : v0 = Value.ref a := ra
    refine oinit_ok To I1 ea ?_ fun s' J => ⟨.non, H1, J, rfl, q⟩
    rw [← Paired.length rr, sizeLine_eq]
    omega
end
/-- what an exception's own __init__(self, f) promises -/
def spXi (K : PySem.W.Frag) (C : Addr) (f : Str) : Sp := fun vs H Q _ => ∃ (a : Addr) (v : V), vs = [.ref a, v] ∧ OexC K C ∧ PySem.W.findIn K (.ref C) f = some none ∧ H a = some (exo a C none) ∧
  ∀ d, H d = none → d ≠ a → Q .non (upd (upd H d (exd d [(f, v)])) a (exo a C (some d)))
/-- its body's reading -/
theorem xi_reading {K : PySem.W.Frag} {C : Addr} {f : Str} {t : Str} {N : List Str} (hN : N = [("self" : Str), f]) (vs : List V) (H : Hp) (Q : VK) (E : XK) (h : spXi K C f vs H Q E) :
    tSeq (tDrop (tVeI K (tCons (tVar 0) (tCons (tC (.str t)) tNil)))) (tOst K f (tVar 0) (tVar 1)) { nx := fun _ H' => Q .non H', rt := Q } (start N vs) H := by
  obtain ⟨a, v, rfl, T, no, ha, k⟩ := h
  subst hN
  refine ⟨_, rfl, a, C, [.str t], rfl, (by show 1 ≤ 1000; decide), T, ha, _, rfl, _, rfl, a, C, rfl, T, no, .inl ⟨ha, k⟩⟩
/-- X(e) -/
abbrev tMk1 (K : PySem.W.Frag) (C : Addr) (f : Str) (te : TE) : L2.St → Hp → XK → Prop := tMkO C (spXi K C f) [] (tCons te tNil)
/-- an exception class x with the field f may be made in X -/
structure MkX (X : Cx) (x f : Str) : Prop where
  run : ∀ {e : Expr} {te : TE} {p pos : Pos}, Gl X x → PE X e te → starEach [e] X.env = (false, eval e X.env) :: starEach [] X.env → PMk X (.Call (.Name x p) [e] [] pos) (tMk1 X.K (He.ga X.K x) f te)
theorem heap_back {H1 : Hp} {a d C : Addr} {fs : List (Str × V)} {o : HO} (ha : H1 a = none) (hd : d ≠ a) :
    upd (del (upd (upd (upd H1 a (exo a C none)) d o) a (exo a C (some d))) a) d (.xd fs) = upd H1 d (.xd fs) := by
  funext b
  by_cases h1 : b = d
  · subst h1
    rw [upd_same, upd_same]
  · rw [upd_ne h1, upd_ne h1]
    by_cases h2 : b = a
    · subst h2
      rw [del_same, ha]
    · rw [del_ne h2, upd_ne h2, upd_ne h1, upd_ne h2]
/-- behind e's value: what the raise asks -/
theorem mk_at {K : PySem.W.Frag} {C : Addr} {f : Str} {v : V} {H1 : Hp} {Q : XK} (T : OexC K C) (no : PySem.W.findIn K (.ref C) f = some none) (k : ∀ d, H1 d = none → Q (.ref C) (some d) (upd H1 d (.xd [(f, v)]))) :
    [v].length ≤ 1000 ∧ ∀ a, H1 a = none → spXi K C f (.ref a :: ([v] ++ [])) (upd H1 a (exo a C none))
      (fun r H2 => r = .non ∧ ∃ (d : Addr) (fs : List (Str × V)), H2 a = some (exo a C (some d)) ∧ H2 d = some (exd d fs) ∧ H1 d = none ∧ Q (.ref C) (some d) (upd (del H2 a) d (.xd fs))) (fun _ _ _ => False) := by
  refine ⟨(by show 1 ≤ 1000; decide), fun a ha => ⟨a, v, rfl, T, no, upd_same, fun d hd hda => ?_⟩⟩
  have hd1 : H1 d = none := by rw [upd_ne hda] at hd; exact hd
  refine ⟨rfl, d, [(f, v)], upd_same, ?_, hd1, ?_⟩
  · rw [upd_ne hda, upd_same]
  · rw [heap_back ha hda]
    exact k d hd1
theorem mkX_of {X : Cx} {x f : Str} {k : Nat} {fd : FuncData} (T : Xc X.K x f) (hm : X.mg x = some (.ref (He.ga X.K x))) (F : FnOk X.prog X.w X.K X.mg X.base (L2.CX X.prog X.w) k (He.ma X.K (He.ga X.K x) "__init__") fd [("self" : Str), f] (spXi X.K (He.ga X.K x) f))
    (hb : Binds X.K fd [("self" : Str), f] []) (hr : Room (k + 1) X.A) (hdb : (x == ("__debug__" : Str)) = false := by decide) : MkX X x f := by
  refine ⟨fun {e te p pos} hg he hst => ?_⟩
  exact pmk_oex T.oex T.ini T.tyi F hr hb .nil passL hg hm (pa_cons he pa_nil hst) hdb hst rfl
/-- raise X(e) -/
theorem ps_rs {X : Cx} {x f : Str} {W : WX} {e : Expr} {te : TE} {p pos pos2 : Pos} (hc : X.calm = true) (M : MkX X x f) (tk : Takes X W) (hg : Gl X x) (he : PE X e te) (hst : starEach [e] X.env = (false, eval e X.env) :: starEach [] X.env := by rfl) :
    PS X (.Raise (some (.Call (.Name x p) [e] [] pos)) none pos2) (fun _ σ H => tMk1 X.K (He.ga X.K x) f te σ H fun cls d H' => W cls d σ H') := ps_raise hc tk (M.run hg he hst)
end AT

set_option maxHeartbeats 4000000
namespace AT
open PySem PySem.Spec PyProof.Rows L2
/-- a clause: the class, the name's slot, the suite's reading -/
abbrev Cla := Value × Nat × (Addr → Value → Option Addr → TS)
def wMas (K : PySem.W.Frag) (Wo : WX) (D : Ends) : List Cla → WX
  | [] => Wo
  | (c, i, ts) :: r => fun cls d σ H => ∃ b, PySem.W.exmOne K cls c = some b ∧
      (b = true → ∀ a, H a = none → ts a cls d { nx := fun σ' H' => D.nx (σ'.set i none) H', rt := D.rt, bk := fun σ' H' => D.bk (σ'.set i none) H', ct := fun σ' H' => D.ct (σ'.set i none) H' } (σ.set i (some (.ref a))) H) ∧
      (b = false → wMas K Wo D r cls d σ H)
inductive HdsAs (X : Cx) : List ExceptHandler → List Cla → Prop
  | nil : HdsAs X [] []
  | cons {x n : Str} {c : Value} {i : Nat} {ts : Addr → Value → Option Addr → TS} {s1 : Stmt} {ss : List Stmt} {q1 q2 : Pos} {hds : List ExceptHandler} {l : List Cla} (hN : X.N.Nodup) (hi : X.N[i]? = some n) (hl : X.env.kindOf n = some .local) (hc : Names X x c)
      (hsu : ∀ (a : Addr) (oe : Obj) (cls : Value) (d : Option Addr) (pn : List (Addr × Obj)), Zc cls d oe → (∃ vs, oe.data = .fields vs) → PSs (X.suite a ((a, oe) :: pn)) (s1 :: ss) (ts a cls d)) (r : HdsAs X hds l) :
      HdsAs X (.ExceptHandler (some (.Name x q1)) (some n) (s1 :: ss) q2 :: hds) ((c, i, ts) :: l)
section
variable {X : Cx} {bd : List Stmt} {hd0 : ExceptHandler} {hds : List ExceptHandler} {l : List Cla} {pos : Pos} {tb : WX → TS} {Wo : WX}
theorem ps_try_mas (stk : X.stack = X.env :: X.outer) (frm : X.env.frame = some X.env.locals) (tkn : Takes X Wo)
    (hbd : ∀ (W : WX) (pn : List (Addr × Obj)) (xe : Value → Shared → Prop), Takes (X.tr pn xe) W → PassesOwn (model X.prog X.w) X.A X.env xe → PSs (X.tr pn xe) bd (tb W))
    (hhs : HdsAs X (hd0 :: hds) l) : PS X (.Try bd (hd0 :: hds) [] [] pos) (fun D σ H => tb (wMas X.K Wo D l) D σ H) := by
  constructor
  intro pins s σ H D I h
  have oki := I.ok
  have frs2 : X.A.frames = some (X.env :: X.outer) := by rw [oki.frames, stk]
  refine wpAny_Try_except ?_
  refine wpAny_mono ((hbd (wMas X.K Wo D l) (X.pn ++ pins) (fun ev t1 => wpAny (model X.prog X.w) X.A (noteFrame ev X.env) (fun _ t2 => wpAny (model X.prog X.w) X.A (setFlight ev none) (fun _ t3 =>
    wpAny (model X.prog X.w) X.A (handleBy ev X.env (hd0 :: hds)) (SP X pins D) X.xe t3) X.xe t2) X.xe t1) (fun u t xx => ?_) PassesOwn.looking).run [] s σ H D (I.toTry _) h) (fun fl t1 hfl => ?_) (fun _ _ z => z)
  · obtain ⟨a, G, tI, pp, σ1, H1, cls, d, rfl, Jt, nbh, upI, sk, na, eos, abr, wsh⟩ := xx
    have J1 : Inv X pins σ1 H1 tI := Jt.ofTry oki
    have sk2 : Sky G (X.env :: X.outer) a (Zc cls d) X.env.locals t.heap := by rw [← stk]; exact sk
    show wpAny (model X.prog X.w) X.A (noteFrame (.ref a) X.env) _ _ _
    refine Sky.land Zc.steady frs2 frm sk2 fun g3 fy3 ut3 => ?_
    have J3 : Inv X pins σ1 H1 { t with heap := g3 } := J1.landed nbh fy3.1 (upI.trans ut3) eos abr
    obtain ⟨ox3, vx3, gx3, zx3, dx3⟩ := fy3.there
    have nofr : a ∉ frs (X.env :: X.outer) := fun hm => by
      obtain ⟨_, o', e', hnf⟩ := fy3.2.2.1.mem hm
      rw [gx3] at e'
      cases e'
      exact hnf _ dx3
    have neL : a ≠ X.env.locals := fun z => nofr (List.mem_filterMap.mpr ⟨X.env, List.mem_cons_self, by rw [frm, z]⟩)
    have neF : a ∉ X.fs := fun hm => by
      obtain ⟨ev, hev, q⟩ := List.mem_filterMap.mp hm
      exact nofr (List.mem_filterMap.mpr ⟨ev, List.mem_cons_of_mem _ hev, q⟩)
    have Sx := J3.suite gx3 dx3 na neL neF
    have run : ∀ {hs' : List ExceptHandler} {l' : List Cla}, HdsAs X hs' l' → wMas X.K Wo D l' cls d σ1 H1 →
        wpAny (model X.prog X.w) X.A (handleBy (.ref a) X.env hs') (SP X pins D) X.xe { t with heap := g3 } := by
      intro hs' l' hk
      induction hk with
      | nil =>
        intro ww
        refine wpAny_handleBy_nil ?_
        obtain ⟨_, _, _, ob, vb, Tb, oTb, tsb, gb, zb, db, b1, _⟩ := id fy3
        unfold PySem.passOn
        refine wpAny_bind (wpAny_field gb db b1 ?_)
        rw [if_neg (by simp)]
        have fin : wpAny (model X.prog X.w) X.A (setFlight (.ref a) X.env.frame) (fun _ t4 => wpAny (model X.prog X.w) X.A (throw (.ref a) : Sem Flow) (SP X pins D) X.xe t4) X.xe { t with heap := g3 } := by
          rw [frm]
          refine HandSPX.setFlight_upZ fy3 fun g4 hg4 ut4 => wpAny_throw (tkn _ _ ?_)
          exact ⟨a, G, tI, pins, σ1, H1, cls, d, rfl, J1, nbh, (upI.trans ut3).trans ut4, .inr (.inr (by rw [stk]; exact hg4)), na, eos, abr, ww⟩
        first
          | exact wpAny_bind (wpAny_pure (wpAny_bind fin))
          | exact wpAny_bind fin
      | @cons x n c i ts s1 ss q1 q2 hds2 l2 hN hi hl hc hsu r ih =>
        intro ww
        obtain ⟨b, hb1, yes, nay⟩ := ww
        refine wpAny_handleBy_cons (codeAny_handlers_test ?_) (by intro q; cases q)
        have LT : PySem.W.Looks (model X.prog X.w) g3 (typeOf (.ref a)) cls := fun _ _ _ _ k q => wpAny_typeOf_ref (k _ _ gx3) (by rw [zx3.1]; exact q)
        have LM := PySem.W.exm_one (M := model X.prog X.w) (J3.kIn) LT hb1
        have tst : ∀ {Q : Value → Shared → Prop} {E : Value → Shared → Prop}, Q c { t with heap := g3 } → wpAny (model X.prog X.w) (X.A.mark (some (.ref a))) (eval (.Name x q1) X.env) Q E { t with heap := g3 } := fun {Q E} q => by
          obtain ⟨hg, hdbg, hm | ⟨hm, hv, hnn⟩⟩ := hc
          · exact ld_glob (X := X.suite a ((a, ox3) :: (X.pn ++ pins))) Sx hg hm q hdbg
          · exact ld_blt (X := X.suite a ((a, ox3) :: (X.pn ++ pins))) Sx hg hm hv q hnn hdbg
        refine tst (LM.here ?_)
        cases b with
        | true =>
          refine codeAny_handlers_suite_as ?_
          refine HandSPX.lands_againZ fy3 fun g4 fy4 ut4 => ?_
          have J4 : Inv X pins σ1 H1 { t with heap := g4 } := J1.landed nbh fy4.1 ((upI.trans ut3).trans ut4) eos abr
          obtain ⟨ox4, vx4, gx4, zx4, dx4⟩ := fy4.there
          have Sy := J4.suite gx4 dx4 na neL neF
          refine store_ok (X := X.suite a ((a, ox4) :: (X.pn ++ pins))) (v := .ref a) Sy hN hi (.inl hl) rfl (fun t5 S5 => ?_) (.inr hl)
          refine wpAny_mono ((hsu a ox4 cls d (X.pn ++ pins) zx4 ⟨_, dx4⟩).run [] t5 _ H1 _ S5 (yes rfl a na)) (fun fl t6 hfl => ?_) (fun _ _ z => False.elim z)
          have gone : ∀ {σ6 : L2.St} {H6 : Hp} {Q : Shared → Prop}, Inv (X.suite a ((a, ox4) :: (X.pn ++ pins))) [] σ6 H6 t6 → (∀ t7, Inv X pins (σ6.set i none) H6 t7 → Q t7) →
              wpAny (model X.prog X.w) X.A (do bindName X.env n .none; unbindBehindTheSuite X.env n q2) (fun _ t7 => Q t7) X.xe t6 := fun {_ _ _} S6 hq => gone_ok (S6.unsuite oki) hN hi hl hq
          cases fl with
          | ret u =>
            obtain ⟨_, _, _, S6, rr, qq⟩ := hfl
            exact gone S6 fun _ J7 => ⟨_, _, _, J7, rr, qq⟩
          | _ =>
            obtain ⟨_, _, S6, qq⟩ := hfl
            exact gone S6 fun _ J7 => ⟨_, _, J7, qq⟩
        | false =>
          show wpAny _ X.A (handleBy (.ref a) X.env hds2) _ _ _
          exact ih (nay rfl)
    exact run hhs wsh
  · cases fl with
    | next =>
      obtain ⟨_, _, Jn, q⟩ := hfl
      exact wpAny_execs_nil ⟨_, _, Jn.ofTry oki, q⟩
    | ret u =>
      obtain ⟨_, _, _, Jn, rr, q⟩ := hfl
      exact ⟨_, _, _, Jn.ofTry oki, rr, q⟩
    | _ =>
      obtain ⟨_, _, Jn, q⟩ := hfl
      exact ⟨_, _, Jn.ofTry oki, q⟩
end
end AT

set_option maxHeartbeats 4000000
namespace AT
open PySem PySem.Spec PyProof.Rows L2
/-! ### defs that are called where no repr is under way -/
structure FnG (P : Program) (w : World) (K : PySem.W.Frag) (mg : Str → Option Value) (base : Heap) (CX : CXT) (k : Nat) (f : Addr) (fd : FuncData) (ps : List Str) (sp : Sp) : Prop where
  len : ∀ vs H Q E, sp vs H Q E → vs.length = ps.length
  run : ∀ (A : Around) (outer : List Env) (s : Shared) (H : Hp) (args : Args) (us : List Value) (vs : List V) (Q : VK) (E : XK), A.guards = some [] → Room k A → Env0 P w K mg base A outer s H → BindsTo s fd args (ps.zip us) → Vals vs us → sp vs H Q E →
    codeAny (model P w) A (.call (.ref f) args) (CR CX outer P w H s Q E) s
theorem okG {P : Program} {w : World} {K : PySem.W.Frag} {mg : Str → Option Value} {base : Heap} {x qual : Str} {params : Arguments} {body : List Stmt} {scope : Scope} {dvs : List V} {kws : List (Str × V)} {f : Addr} {fd : FuncData}
    {CX : CXT} {N ps : List Str} {k : Nat} {sp : Sp} (F : FunD K x qual params body scope dvs kws f fd) (S : FnScope N ps scope) (len : ∀ vs H Q E, sp vs H Q E → vs.length = ps.length)
    (hbody : ∀ (cdv : Value) (A : Around) (outer : List Env) (s : Shared) (H : Hp) (vs : List V) (Q : VK) (E : XK), A.guards = some [] → Room k (A.deeper (envOfC qual scope s.heap.objs.size f cdv)) → sp vs H Q E →
      ∃ t, PSs (cxOf CX P w K mg base N qual scope f cdv A outer s H E) body t ∧ t { nx := fun _ H' => Q .non H', rt := Q } (start N vs) H) : FnG P w K mg base CX (k + 1) f fd ps sp := by
  obtain ⟨oc, od, dV, kV, doc, pm, an, cdv, ct, osl, rfl, lk, hcd, _, _⟩ := F.ex
  refine ⟨len, fun A outer s H args us vs Q E hgd hr e0 hbd rv hsp => ?_⟩
  have KI : K.In s.heap := e0.mod.kin.keeps fun b o z => (e0.bs b o z).1
  have nl : s.heap.NoLimit := e0.mod.nolimit.keeps fun b o z => (e0.bs b o z).1
  have kinds : ∀ y ∈ ps.zip us, scope.names.lookup y.1 = some .local ∨ (scope.names.lookup y.1 = some .cell ∧ ((cellsFrom (s.heap.objs.size + 1) scope.names []).lookup y.1).isSome = true) := by
    rintro ⟨n, v⟩ hy
    exact (S.par n (List.of_mem_zip hy).1).imp id fun q => ⟨q, PySem.W.cellsFrom_some _ _ _ (.inl q)⟩
  refine codeAny_call_function hr.depth (KI _ _ lk) rfl S.co S.gen rfl (PySem.W.codeRec_of KI hcd) (hbd _ _ _ _ ?_)
  refine wpAny_newFunctionEnv_cells S.kind kinds fun env he s1 ic => ?_
  subst he
  refine ⟨nl.keeps ic.toInCall.keep, codeAny_func ?_⟩
  obtain ⟨t, ht, hq⟩ := hbody cdv A outer s H vs Q E hgd (hr.deeper _) hsp
  have I1 := inv_start (CX := CX) (E := E) S hr.hd e0 (len _ _ _ _ hsp) rv ic
  refine wpAny_mono (ht.run [] s1 (start N vs) H _ I1 hq) (fun fl s' hfl => ?_) fun _ _ z => z
  cases fl with
  | ret u =>
    obtain ⟨v, _, H', J, r2, q⟩ := hfl
    exact ⟨v, H', J.os, J.bare, J.base, J.hok, r2, q⟩
  | next =>
    obtain ⟨_, H', J, q⟩ := hfl
    exact ⟨V.non, H', J.os, J.bare, J.base, J.hok, rfl, q⟩
  | _ =>
    obtain ⟨_, _, _, q⟩ := hfl
    exact q.elim
section
variable {X : Cx} {CX : CXT} {k : Nat} {f : Addr} {fd : FuncData} {ps : List Str} {sp : Sp} {dvs : List V} {ds : List Value} {E : XK} {x : Str} {p pos : Pos} {e : Expr} {es : List Expr} {t : TA}
theorem run_g {pins : List (Addr × Obj)} {σ : L2.St} {H : Hp} {s : Shared} {Q : VK} {us : List Value} {vs : List V} (F : FnG X.prog X.w X.K X.mg X.base CX k f fd ps sp) (hgd : X.A.guards = some []) (hr : Room k X.A) (hb : Binds X.K fd ps ds) (hd : Vals dvs ds) (hx : Passes CX X E)
    (I : Inv X pins σ H s) (r : Vals vs us) (h : sp (vs ++ dvs) H Q E) : wpAny (model X.prog X.w) X.A (call (.ref f) us) (EP X pins σ Q) X.xe s := by
  have r2 : Vals (vs ++ dvs) (us ++ ds) := r.append hd
  have hlen : (us ++ ds).length = ps.length := r2.length.symm.trans (F.len _ _ _ _ h)
  refine wpAny_call (codeAny_mono (F.run X.A X.stack s H ⟨us, []⟩ (us ++ ds) (vs ++ dvs) Q E hgd hr I.env0 (hb s us I.kIn hlen) r2 h) fun res s' hq => ?_)
  cases res with
  | error er => exact hx pins σ H s er s' I hq
  | ok fl =>
    cases fl with
    | ret u => exact I.after hq
    | _ => exact False.elim hq
theorem pe_callG (F : FnG X.prog X.w X.K X.mg X.base CX k f fd ps sp) (hgd : X.A.guards = some []) (hr : Room k X.A) (hg : Gl X x) (hm : X.mg x = some (.ref f)) (hk : PySem.W.keepIn X.K (.ref f) = true) (hb : Binds X.K fd ps ds) (hd : Vals dvs ds) (hx : Passes CX X E)
    (ha : PA X (e :: es) t) (hdb : (x == ("__debug__" : Str)) = false := by decide) (hst : starEach (e :: es) X.env = (false, eval e X.env) :: starEach es X.env := by rfl) (hns : (backTo pos (starEach es X.env)).any (·.1) = false := by rfl) :
    PE X (.Call (.Name x p) (e :: es) [] pos) (tCall sp dvs E t) := by
  constructor
  intro pins s σ H Q I h
  refine wpAny_Call_Name_kw (ld_glob I hg hm ?_ hdb)
  refine PySem.W.callWith_K (h₀ := X.base) I.ok.mod.kin hk (thn (ha.run pos pins s σ H _ I h) fun us s1 hh => ?_) hst hns
  obtain ⟨vs, H1, I1, r, q⟩ := hh
  exact ⟨I1.kIn, run_g F hgd hr hb hd hx I1 r q⟩
theorem pe_callG0 (F : FnG X.prog X.w X.K X.mg X.base CX k f fd ps sp) (hgd : X.A.guards = some []) (hr : Room k X.A) (hg : Gl X x) (hm : X.mg x = some (.ref f)) (hk : PySem.W.keepIn X.K (.ref f) = true) (hb : Binds X.K fd ps ds) (hd : Vals dvs ds) (hx : Passes CX X E)
    (hdb : (x == ("__debug__" : Str)) = false := by decide) : PE X (.Call (.Name x p) [] [] pos) (tCall sp dvs E tNil) := by
  constructor
  intro pins s σ H Q I h
  exact wpAny_Call_Name_kw (ld_glob I hg hm (PySem.W.callWith_K0 I.kIn hk (run_g (us := []) F hgd hr hb hd hx I .nil h)) hdb)
end
/-! ### data: what stands under a value; repr -/
mutual
inductive Dd (K : PySem.W.Frag) (H : Hp) : V → PyData → Prop
  | non : Dd K H .non .none
  | bl (b : Bool) : Dd K H (.bl b) (.bool b)
  | int (i : Int) : Dd K H (.int i) (.int i)
  | str (x : Str) : Dd K H (.str x) (.str x)
  | lst {a : Addr} {xs : List V} {ds : List PyData} : SqL K H a xs → DdAll K H xs ds → Dd K H (.ref a) (.list ds)
  | tup {a : Addr} {xs : List V} {ds : List PyData} : SqT K H a xs → DdAll K H xs ds → Dd K H (.ref a) (.tuple ds)
  | emp {a : Addr} : H a = some (.dK []) → Dd K H (.ref a) (.dict [])
inductive DdAll (K : PySem.W.Frag) (H : Hp) : List V → List PyData → Prop
  | nil : DdAll K H [] []
  | cons {v : V} {vs : List V} {d : PyData} {ds : List PyData} : Dd K H v d → DdAll K H vs ds → DdAll K H (v :: vs) (d :: ds)
end
section
variable {X : Cx} {pins : List (Addr × Obj)} {σ : L2.St} {H : Hp} {s : Shared}
theorem sys_free (hK : ∃ o, X.K.lookup sysModules = some o ∧ o.cls = .type "dict") (I : Inv X pins σ H s) : H sysModules = none := by
  obtain ⟨o, ho, _⟩ := hK
  exact (I.bs sysModules o (I.ok.mod.kin _ _ ho)).2
theorem sql_nosys (hK : ∃ o, X.K.lookup sysModules = some o ∧ o.cls = .type "dict") (I : Inv X pins σ H s) {a : Addr} {xs : List V} (h : SqL X.K H a xs) : a ≠ sysModules := by
  intro e
  subst e
  rcases h with (h | ⟨o, h⟩) | ⟨o, its, n, h, hc, _⟩
  · rw [sys_free hK I] at h; cases h
  · rw [sys_free hK I] at h; cases h
  · obtain ⟨o2, h2, hc2⟩ := hK
    rw [h] at h2
    cases h2
    rw [hc] at hc2
    exact absurd (Value.type.inj hc2) (by decide)
theorem plainL_at {h : Heap} {a : Addr} {its : Array Value} (p : PlainL h a its) : ∃ o n, h.get? a = some o ∧ o.cls = .type "list" ∧ o.data = .seq its n :=
  let ⟨o, n, e, c, _, q⟩ := p
  ⟨o, n, e, c, q⟩
mutual
theorem Dd.reads (hK : ∃ o, X.K.lookup sysModules = some o ∧ o.cls = .type "dict") (I : Inv X pins σ H s) : ∀ (d : PyData) (v : V) (u : Value), Dd X.K H v d → RelV v u → ∃ as, Reads s.heap u d as ∧ sysModules ∉ as
  | _, _, _, .non, r => by cases r; exact ⟨[], .none, by simp⟩
  | _, _, _, .bl b, r => by cases r; exact ⟨[], .bool b, by simp⟩
  | _, _, _, .int i, r => by obtain ⟨t, rfl⟩ := r; exact ⟨[], .int i t, by simp⟩
  | _, _, _, .str x, r => by obtain ⟨t, rfl⟩ := r; exact ⟨[], .str x t, by simp⟩
  | _, _, _, .lst hl hd, r => by
    cases r
    have hn := sql_nosys hK I hl
    obtain ⟨its, rv, hpl, _⟩ := I.list hl
    obtain ⟨o, n, ho, hc, hda⟩ := plainL_at hpl
    obtain ⟨as, ra, na⟩ := Dd.readsAll hK I _ _ _ hd rv
    exact ⟨_, .list ho hc hda (by simpa using ra), fun hm => by
      rcases List.mem_cons.mp hm with q | q
      · exact hn q.symm
      · exact na q⟩
  | _, _, _, .tup hl hd, r => by
    cases r
    obtain ⟨its, rv, ⟨o, ho, hc, n, hda⟩, _⟩ := I.tuple hl
    obtain ⟨as, ra, na⟩ := Dd.readsAll hK I _ _ _ hd rv
    exact ⟨_, .tuple ho hc hda (by simpa using ra), na⟩
  | _, _, _, .emp (a := a) he, r => by
    cases r
    obtain ⟨_, hs, vs, kv, o, es, ep, ho, hx, hda, _, hp, _⟩ := I.hok _ _ he
    cases kv
    have he : es.toList = [] := by
      generalize es.toList = l at hp
      cases hp
      rfl
    refine ⟨_, .dict (kvs := []) (as := []) (bs := []) ho hx.1 hda (by rw [he]; exact .nil) (by rw [he]; exact .nil), fun hm => ?_⟩
    rcases List.mem_cons.mp hm with q | q
    · rw [q] at hs
      simp at hs
    · simp at q
theorem Dd.readsAll (hK : ∃ o, X.K.lookup sysModules = some o ∧ o.cls = .type "dict") (I : Inv X pins σ H s) : ∀ (ds : List PyData) (vs : List V) (us : List Value), DdAll X.K H vs ds → Vals vs us → ∃ as, ReadsAll s.heap us ds as ∧ sysModules ∉ as
  | _, _, _, .nil, r => by cases r; exact ⟨[], .nil, by simp⟩
  | _, _, _, .cons hd hr, r => by
    cases r with
    | cons r1 r2 =>
      obtain ⟨as, ra, na⟩ := Dd.reads hK I _ _ _ hd r1
      obtain ⟨bs, rb, nb⟩ := Dd.readsAll hK I _ _ _ hr r2
      exact ⟨_, .cons ra rb, fun hm => (List.mem_append.mp hm).elim na nb⟩
end
/-- repr(x) of data -/
def rRepr (K : PySem.W.Frag) : List V → Hp → VK → Prop := fun xs H Q => ∃ (x : V) (d : PyData), xs = [x] ∧ Dd K H x d ∧ d.showable = true ∧ d.depth ≤ 50 ∧ d.shown.length ≤ sizeLine ∧ Q (.str d.shown) H
theorem call_repr {k : Nat} (hgd : X.A.guards = some []) (hr : Room k X.A) (hK : ∃ o, X.K.lookup sysModules = some o ∧ o.cls = .type "dict") : CallR X (.builtin "repr") (rRepr X.K) := by
  intro pins s σ H xs us Q I r h
  obtain ⟨x, d, rfl, hd, hsh, hdp, hsz, q⟩ := h
  obtain ⟨u, rfl, ru⟩ := vals1 r
  obtain ⟨as, hR, hns⟩ := hd.reads hK I _ _ u ru
  have hun := hr.units
  cases hR with
  | none => exact PySem.P.repr_of_none ⟨.str _, H, I.tok _, ⟨_, rfl⟩, q⟩
  | bool b => exact PySem.P.repr_of_bool ⟨.str _, H, I.tok _, ⟨_, rfl⟩, q⟩
  | int i t => exact PySem.P.repr_of_int (of_decide_eq_true hsh) ⟨.str _, H, I.tok _, ⟨_, rfl⟩, q⟩
  | str y t => exact PySem.P.repr_of_str ⟨.str _, H, I.tok _, ⟨_, rfl⟩, q⟩ hsz
  | list h1 h2 h3 h4 =>
    exact repr_of_reads' (.list h1 h2 h3 h4) hsh (fun _ => hns) hgd (by omega) (fun _ _ z => z) (fun h' u' tk kp => ⟨.str _, H, I.kept kp, ⟨_, rfl⟩, q⟩) hsz
  | tuple h1 h2 h3 h4 =>
    exact repr_of_reads' (.tuple h1 h2 h3 h4) hsh (fun _ => hns) hgd (by omega) (fun _ _ z => z) (fun h' u' tk kp => ⟨.str _, H, I.kept kp, ⟨_, rfl⟩, q⟩) hsz
  | dict h1 h2 h3 h4 h5 =>
    exact repr_of_reads' (.dict h1 h2 h3 h4 h5) hsh (fun _ => hns) hgd (by omega) (fun _ _ z => z) (fun h' u' tk kp => ⟨.str _, H, I.kept kp, ⟨_, rfl⟩, q⟩) hsz
end
end AT

set_option maxHeartbeats 4000000
namespace AT
open PySem PySem.Spec PyProof.Rows L2
/-- the law's call, from its def's promise -/
theorem lawG {P : Program} {w : World} {K : PySem.W.Frag} {mg mb : Str → Option Value} {CX : CXT} {k : Nat} {fa a : Addr} {fd : FuncData} {x : Str} {sp : Sp} {st : Shared} {vs : List Value} {ns : List Int}
    (KI : K.In st.heap) (hG : st.heap.Ns mainGlobals mg) (hB : st.heap.Ns builtinsNs mb) (hBb : ∀ x : Str, x ≠ "__name__" → mb x = bootBuiltins x) (hNl : st.heap.NoLimit) (hgs : st.gens = #[])
    (hob : st.heap.get? a = some { cls := .type "list", data := .seq vs.toArray }) (hin : IntsAre vs ns) (hsz : ns.length ≤ sizeLine) (hr : Room k callerA)
    (F : ∀ base : Heap, K.In base → base.Ns mainGlobals mg → FnG P w K mg base CX k fa fd [x] sp) (hbd : ∀ (s : Shared) (u : Value), BindsTo s fd ⟨[u], []⟩ [(x, u)])
    (hsp : ∀ H : Hp, Only H → SqL K H a (ns.map V.int) → sp [.ref a] H (fun v _ => v = .bl true) fun _ _ _ => False)
    (hno : ∀ H e s', CX [] H st (fun _ _ _ => False) e s' → False) :
    codeAny (model P w) callerA (.call (.ref fa) ⟨[.ref a], []⟩) (fun r s' => r = .ok (.ret (.bool true)) ∧ OldK st.heap s'.heap ∧ s'.os = st.os ∧ AllBare s'.gens) st := by
  have rv := vals_ints hin
  have main : ∀ H : Hp, Only H → SqL K H a (ns.map V.int) → HOk P w H st.heap → (∀ b, H b ≠ none → b = a) → (H a ≠ none → K.lookup a = none) →
      codeAny (model P w) callerA (.call (.ref fa) ⟨[.ref a], []⟩) (fun r s' => r = .ok (.ret (.bool true)) ∧ OldK st.heap s'.heap ∧ s'.os = st.os ∧ AllBare s'.gens) st := by
    intro H hO hS hok hA hKa
    have free : ∀ {b : Addr} {o : Obj} {es : Array DictEntry} {ep : Nat}, st.heap.get? b = some o → o.data = .dict es ep → H b = none := by
      intro b o es ep e d
      cases q : H b with
      | none => rfl
      | some u =>
        obtain rfl : b = a := hA b (by rw [q]; exact Option.some_ne_none u)
        rw [hob] at e
        cases e
        cases d
    have nsH : ∀ {b : Addr} {m : Str → Option Value}, st.heap.Ns b m → (hidT st.heap H).Ns b m := by
      rintro b m ⟨o, es, ep, e, d, rr⟩
      exact ⟨o, es, ep, hidT_get e (free e d), d, rr⟩
    have KH : K.In (hidT st.heap H) := by
      intro b o e
      refine hidT_get (KI b o e) ?_
      cases q : H b with
      | none => rfl
      | some u =>
        obtain rfl : b = a := hA b (by rw [q]; exact Option.some_ne_none u)
        rw [hKa (by rw [q]; exact Option.some_ne_none u)] at e
        cases e
    have hM : Mod K mg (hidT st.heap H) := by
      obtain ⟨mc, h1, h2⟩ := hNl
      exact ⟨KH, nsH hG, ⟨mb, nsH hB, hBb⟩, ⟨mc, nsH h1, h2⟩⟩
    have e0 : Env0 P w K mg (hidT st.heap H) callerA [] st H :=
      { frames := rfl, mod := hM, bs := fun b o e => of_hidT e, bsz := Nat.le_of_eq (hidT_size _ _), funs := trivial, frf := (by intro b hb; exact absurd hb (by simp [frs])), hok := hok, bare := .of_eq hgs }
    refine codeAny_mono ((F _ KH (nsH hG)).run callerA [] st H ⟨[.ref a], []⟩ [.ref a] [.ref a] _ _ rfl hr e0 (hbd st (.ref a)) (.cons rfl .nil) (hsp H hO hS)) fun r s' h => ?_
    cases r with
    | error e => exact (hno H e s' h).elim
    | ok fl =>
      cases fl with
      | ret u =>
        obtain ⟨v, H', eos, br, un, hok', r', q⟩ := h
        obtain rfl : v = .bl true := q
        obtain rfl : u = Value.bool true := r'
        refine ⟨rfl, OldK.of_keep fun b o e => ?_, eos, br⟩
        cases q : H b with
        | none => exact un.keep b o e q (by simp [frs]) (by simp)
        | some u =>
          rcases hO b with z | ⟨ob, xs, z⟩
          · rw [q] at z
            cases z
          · have y2 := (hok' b _ (un.frzs b ob _ z)).1
            have y1 := (hok b _ z).1
            rw [e] at y1
            cases y1
            exact y2
      | _ => exact False.elim h
  cases hk : K.lookup a with
  | some o =>
    have e := KI a o hk
    rw [hob] at e
    cases e
    refine main (fun _ => none) (fun _ => .inl rfl) (.inr ⟨_, vs.toArray, _, hk, rfl, rfl, rfl, ?_, by simpa using rv⟩) ?_ (fun b z => absurd rfl z) fun z => absurd rfl z
    · rw [List.size_toArray, hin.length]
      exact hsz
    · intro b u z
      exact nomatch (show (none : Option HO) = some u from z)
  | none =>
    let o1 : Obj := { cls := .type "list", data := .seq vs.toArray }
    refine main (fun b => if b = a then some (.frz o1 (.lst (ns.map V.int))) else none) (fun b => ?_) (.inl (.inr ⟨o1, if_pos rfl⟩)) (fun b u z => ?_) (fun b z => ?_) fun _ => hk
    · by_cases hb : b = a
      · exact .inr ⟨_, _, if_pos hb⟩
      · exact .inl (if_neg hb)
    · by_cases hb : b = a
      · have y := (if_pos hb).symm.trans z
        cases y
        subst hb
        exact ⟨hob, by rw [List.length_map]; exact hsz, vs, _, rv, hob⟩
      · have y := (if_neg hb).symm.trans z
        cases y
    · by_cases hb : b = a
      · exact hb
      · exact absurd (if_neg hb) z
theorem walkG {l : PySem.W.OpenLaw} {n k : Nat} {q : Program} {loose : List Str} {XP : (Str → Option Value) → Heap → Prop} {YP : World → Heap → Prop} {d : DefRec} {CX : World → CXT} {x : Str}
    (hn : l.most = some n) (hn2 : n ≤ sizeLine) (hdf : d.params.defaults = []) (hr : Room k callerA)
    (F : ∀ (w : World) (mg : Str → Option Value) (fa : Addr) (h : Heap), YP w h → h.Ns mainGlobals mg → mg d.name = some (.ref fa) →
      ∃ (K : PySem.W.Frag) (fd : FuncData) (sp : Sp), K.In h ∧ (∀ (s : Shared) (u : Value), BindsTo s fd ⟨[u], []⟩ [(x, u)]) ∧
        (∀ (H : Hp) (a : Addr) (ns : List Int), ns.length ≤ n → Only H → SqL K H a (ns.map V.int) → sp [.ref a] H (fun v _ => v = .bl true) fun _ _ _ => False) ∧
        ∀ base : Heap, K.In base → base.Ns mainGlobals mg → FnG l.prog w K mg base (CX w) k fa fd [x] sp)
    (hno : ∀ (w : World) (H : Hp) (s : Shared) (e : Value) (s' : Shared), CX w [] H s (fun _ _ _ => False) e s' → False) :
    PySem.W.WalkO q loose XP YP l.row.toRowW d [] (fun f vs => PySem.call f vs) := by
  refine Att.attach_call hn hdf fun w _ st mg mb fa o pm cd doc a vs ns G Y _ _ _ hmg hob hin hlen hgs => ?_
  obtain ⟨K, fd, sp, KI, hbd, hsp, hF⟩ := F w mg fa _ Y G.T.g hmg
  exact lawG KI G.T.g G.T.b G.T.builtins G.T.nolimit hgs hob hin (Nat.le_trans hlen hn2) hr hF hbd (fun H hO hS => hsp H a ns hlen hO hS) fun H e s' => hno w H st e s'
theorem cx_false {P : Program} {w : World} {outer : List Env} {H : Hp} {s : Shared} {e : Value} {s' : Shared} (h : L2.CX P w outer H s (fun _ _ _ => False) e s') : False := by
  obtain ⟨_, _, _, _, _, _, _, _, _, _, _, _, z⟩ := h
  exact z
end AT

set_option maxHeartbeats 4000000
namespace AT
open PySem PySem.Spec PyProof.Rows L2
/-- a def that keeps a promise, and how it is called with all its parameters -/
def Ok (P : Program) (w : World) (K : PySem.W.Frag) (mg : Str → Option Value) (base : Heap) (k : Nat) (f : Addr) (ps : List Str) (sp : Sp) : Prop :=
  ∃ fd, FnOk P w K mg base (L2.CX P w) k f fd ps sp ∧ Binds K fd ps [] ∧ PySem.W.keepIn K (.ref f) = true
/-- .. with its last parameters left to their defaults dvs -/
def OkD (P : Program) (w : World) (K : PySem.W.Frag) (mg : Str → Option Value) (base : Heap) (k : Nat) (f : Addr) (ps : List Str) (dvs : List V) (sp : Sp) : Prop :=
  ∃ fd ds, FnOk P w K mg base (L2.CX P w) k f fd ps sp ∧ Vals dvs ds ∧ Binds K fd ps ds ∧ PySem.W.keepIn K (.ref f) = true
/-- .. where no repr is under way -/
def OkG (P : Program) (w : World) (K : PySem.W.Frag) (mg : Str → Option Value) (base : Heap) (k : Nat) (f : Addr) (ps : List Str) (sp : Sp) : Prop :=
  ∃ fd, FnG P w K mg base (L2.CX P w) k f fd ps sp ∧ Binds K fd ps [] ∧ PySem.W.keepIn K (.ref f) = true
section
variable {X : Cx} {k : Nat} {f C : Addr} {ps : List Str} {sp : Sp} {dvs : List V} {E : XK} {x m : Str} {p pos apos : Pos} {e o : Expr} {es : List Expr} {ta : TE} {t : TA}
theorem ok_call (F : Ok X.prog X.w X.K X.mg X.base k f ps sp) (hr : Room k X.A) (hg : Gl X x) (hm : X.mg x = some (.ref f)) (hx : Passes (L2.CX X.prog X.w) X E) (ha : PA X (e :: es) t)
    (hdb : (x == ("__debug__" : Str)) = false := by decide) (hst : starEach (e :: es) X.env = (false, eval e X.env) :: starEach es X.env := by rfl) (hns : (backTo pos (starEach es X.env)).any (·.1) = false := by rfl) :
    PE X (.Call (.Name x p) (e :: es) [] pos) (tCall sp [] E t) := by
  obtain ⟨fd, F1, b, kp⟩ := F
  exact pe_call F1 hr hg hm kp b .nil hx ha hdb hst hns
theorem ok_call0 (F : Ok X.prog X.w X.K X.mg X.base k f [] sp) (hr : Room k X.A) (hg : Gl X x) (hm : X.mg x = some (.ref f)) (hx : Passes (L2.CX X.prog X.w) X E)
    (hdb : (x == ("__debug__" : Str)) = false := by decide) : PE X (.Call (.Name x p) [] [] pos) (tCall sp [] E tNil) := by
  obtain ⟨fd, F1, b, kp⟩ := F
  exact pe_call0 F1 hr hg hm kp b .nil hx hdb
theorem ok_callG (F : OkG X.prog X.w X.K X.mg X.base k f ps sp) (hgd : X.A.guards = some []) (hr : Room k X.A) (hg : Gl X x) (hm : X.mg x = some (.ref f)) (hx : Passes (L2.CX X.prog X.w) X E) (ha : PA X (e :: es) t)
    (hdb : (x == ("__debug__" : Str)) = false := by decide) (hst : starEach (e :: es) X.env = (false, eval e X.env) :: starEach es X.env := by rfl) (hns : (backTo pos (starEach es X.env)).any (·.1) = false := by rfl) :
    PE X (.Call (.Name x p) (e :: es) [] pos) (tCall sp [] E t) := by
  obtain ⟨fd, F1, b, kp⟩ := F
  exact pe_callG F1 hgd hr hg hm kp b .nil hx ha hdb hst hns
theorem ok_callG0 (F : OkG X.prog X.w X.K X.mg X.base k f [] sp) (hgd : X.A.guards = some []) (hr : Room k X.A) (hg : Gl X x) (hm : X.mg x = some (.ref f)) (hx : Passes (L2.CX X.prog X.w) X E)
    (hdb : (x == ("__debug__" : Str)) = false := by decide) : PE X (.Call (.Name x p) [] [] pos) (tCall sp [] E tNil) := by
  obtain ⟨fd, F1, b, kp⟩ := F
  exact pe_callG0 F1 hgd hr hg hm kp b .nil hx hdb
/-- in a try's body -/
theorem ok_callS {W : WX} (F : Ok X.prog X.w X.K X.mg X.base k f ps sp) (hr : Room k X.A) (hg : Gl X x) (hm : X.mg x = some (.ref f)) (tk : Takes X W) (ha : PA X (e :: es) t)
    (hdb : (x == ("__debug__" : Str)) = false := by decide) (hst : starEach (e :: es) X.env = (false, eval e X.env) :: starEach es X.env := by rfl) (hns : (backTo pos (starEach es X.env)).any (·.1) = false := by rfl) :
    PE X (.Call (.Name x p) (e :: es) [] pos) (tCallSD sp [] (fun σ cls d H => W cls d σ H) t) := by
  obtain ⟨fd, F1, b, kp⟩ := F
  exact pe_callSD F1 hr hg hm kp b .nil (fun σ => passAt tk σ) ha hdb hst hns
/-- C(e, ..) -/
theorem ok_make (M : Mk X.K C f) (F : Ok X.prog X.w X.K X.mg X.base k f ps sp) (hr : Room (k + 1) X.A) (hg : Gl X x) (hm : X.mg x = some (.ref C)) (hx : Passes (L2.CX X.prog X.w) X E) (ha : PA X (e :: es) t)
    (hdb : (x == ("__debug__" : Str)) = false := by decide) (hst : starEach (e :: es) X.env = (false, eval e X.env) :: starEach es X.env := by rfl) (hns : (backTo pos (starEach es X.env)).any (·.1) = false := by rfl) :
    PE X (.Call (.Name x p) (e :: es) [] pos) (tMake C sp [] E t) := by
  obtain ⟨fd, F1, b, kp⟩ := F
  exact pe_make M F1 hr hg hm b .nil hx ha hdb hst hns
theorem ok_makeD (M : Mk X.K C f) (F : OkD X.prog X.w X.K X.mg X.base k f ps dvs sp) (hr : Room (k + 1) X.A) (hg : Gl X x) (hm : X.mg x = some (.ref C)) (hx : Passes (L2.CX X.prog X.w) X E) (ha : PA X (e :: es) t)
    (hdb : (x == ("__debug__" : Str)) = false := by decide) (hst : starEach (e :: es) X.env = (false, eval e X.env) :: starEach es X.env := by rfl) (hns : (backTo pos (starEach es X.env)).any (·.1) = false := by rfl) :
    PE X (.Call (.Name x p) (e :: es) [] pos) (tMake C sp dvs E t) := by
  obtain ⟨fd, ds, F1, vd, b, kp⟩ := F
  exact pe_make M F1 hr hg hm b vd hx ha hdb hst hns
/-- o.f, a property -/
theorem ok_prop {g : Addr} (c : Cls X.K C) (hp : ∃ q, PropOf X.K C m q g) (F : Ok X.prog X.w X.K X.mg X.base k g [("self" : Str)] sp) (hr : Room (k + 1) X.A) (he : PE X e ta)
    (hab : attributeBase e m X.env (eval e X.env) = eval e X.env := by rfl) : PE X (.Attribute e m pos) (tProp C sp [] E0 ta) := by
  obtain ⟨q, hq⟩ := hp
  obtain ⟨fd, F1, b, kp⟩ := F
  exact pe_prop he c hq F1 hr b .nil passL hab
end
/-- all that the body's proof gives: a def's promise -/
theorem mk_ok {P : Program} {w : World} {K : PySem.W.Frag} {mg : Str → Option Value} {base : Heap} {x qual : Str} {st : Stmt} {kws : List (Str × V)} {f : Addr} {N ps : List Str} {k : Nat} {sp : Sp}
    (F : ∃ fd, FunD K x qual (defArgs st) (defBody st) (defScope st) [] kws f fd) (S : FnScope N ps (defScope st))
    (hb : ∀ (kV doc pm : Value) (an : Option Addr) (cdv ct : Value) (us : List Value), us.length = ps.length → bindArgs (PySem.W.fnOf x qual (defArgs st) (defBody st) (defScope st) .none kV doc pm an cdv ct) ⟨us, []⟩ = pure (ps.zip us))
    (len : ∀ vs H Q E, sp vs H Q E → vs.length = ps.length)
    (body : ∀ (cdv : Value) (A : Around) (outer : List Env) (s : Shared) (H : Hp) (vs : List V) (Q : VK) (E : XK), Room k (A.deeper (envOfC qual (defScope st) s.heap.objs.size f cdv)) → sp vs H Q E →
      ∃ t, PSs (cxOf (L2.CX P w) P w K mg base N qual (defScope st) f cdv A outer s H E) (defBody st) t ∧ t { nx := fun _ H' => Q .non H', rt := Q } (start N vs) H) : Ok P w K mg base (k + 1) f ps sp := by
  obtain ⟨fd, F⟩ := F
  exact ⟨fd, F.ok S len body, F.bindsN hb, F.kp⟩
theorem mk_okG {P : Program} {w : World} {K : PySem.W.Frag} {mg : Str → Option Value} {base : Heap} {x qual : Str} {st : Stmt} {kws : List (Str × V)} {f : Addr} {N ps : List Str} {k : Nat} {sp : Sp}
    (F : ∃ fd, FunD K x qual (defArgs st) (defBody st) (defScope st) [] kws f fd) (S : FnScope N ps (defScope st))
    (hb : ∀ (kV doc pm : Value) (an : Option Addr) (cdv ct : Value) (us : List Value), us.length = ps.length → bindArgs (PySem.W.fnOf x qual (defArgs st) (defBody st) (defScope st) .none kV doc pm an cdv ct) ⟨us, []⟩ = pure (ps.zip us))
    (len : ∀ vs H Q E, sp vs H Q E → vs.length = ps.length)
    (body : ∀ (cdv : Value) (A : Around) (outer : List Env) (s : Shared) (H : Hp) (vs : List V) (Q : VK) (E : XK), (A.deeper (envOfC qual (defScope st) s.heap.objs.size f cdv)).guards = some [] → Room k (A.deeper (envOfC qual (defScope st) s.heap.objs.size f cdv)) → sp vs H Q E →
      ∃ t, PSs (cxOf (L2.CX P w) P w K mg base N qual (defScope st) f cdv A outer s H E) (defBody st) t ∧ t { nx := fun _ H' => Q .non H', rt := Q } (start N vs) H) : OkG P w K mg base (k + 1) f ps sp := by
  obtain ⟨fd, F⟩ := F
  exact ⟨fd, okG F S len (fun cdv A outer s H vs Q E hg => body cdv A outer s H vs Q E hg), F.bindsN hb, F.kp⟩
theorem Ok.mono {P : Program} {w : World} {K : PySem.W.Frag} {mg : Str → Option Value} {base : Heap} {j k : Nat} {f : Addr} {ps : List Str} {sp : Sp} (F : Ok P w K mg base j f ps sp) (h : j ≤ k) : Ok P w K mg base k f ps sp := by
  obtain ⟨fd, F1, b, kp⟩ := F
  exact ⟨fd, F1.mono h, b, kp⟩
theorem Ok.imp {P : Program} {w : World} {K : PySem.W.Frag} {mg : Str → Option Value} {base : Heap} {k : Nat} {f : Addr} {ps : List Str} {sp sp' : Sp} (F : Ok P w K mg base k f ps sp) (h : ∀ vs H Q E, sp' vs H Q E → sp vs H Q E) : Ok P w K mg base k f ps sp' := by
  obtain ⟨fd, F1, b, kp⟩ := F
  exact ⟨fd, F1.imp h, b, kp⟩
/-- an exception's class, made anywhere -/
theorem mk_X {X : Cx} {x f : Str} {k : Nat} (T : Xc X.K x f) (hm : X.mg x = some (.ref (He.ga X.K x))) (F : Ok X.prog X.w X.K X.mg X.base k (He.ma X.K (He.ga X.K x) "__init__") [("self" : Str), f] (spXi X.K (He.ga X.K x) f)) (hr : Room (k + 1) X.A) (hdb : (x == ("__debug__" : Str)) = false := by decide) : MkX X x f := by
  obtain ⟨fd, F1, b, kp⟩ := F
  exact mkX_of T hm F1 b hr hdb
/-- what a callee lets out leaves the def -/
theorem passE {X : Cx} {E : XK} {E1 : Value → Shared → Prop} (hs : X.stack = X.env :: X.outer) (hf : X.env.frame = some X.env.locals) (hex : X.ex = []) (hx : X.xe = fun e s' => wpAny (model X.prog X.w) X.A (leaving X.env e) (fun _ s'' => L2.CX X.prog X.w X.outer X.H_0 X.s_0 E e s'') E1 s') : Passes (L2.CX X.prog X.w) X E :=
  passes_call (takes_of hs hf hex hx) (fun _ _ _ _ z => z)
end AT
namespace AT
open PySem PySem.Spec PyProof.Rows L2
theorem pe_k {X : Cx} {x : Str} {v : V} {pos : Pos} (h : ∃ u, X.mg x = some u ∧ RelV v u) (hg : Gl X x := by rfl) (hd : (x == ("__debug__" : Str)) = false := by decide) : PE X (.Name x pos) (tC v) := by
  obtain ⟨u, hu, r⟩ := h
  exact pe_glob hg hu r hd
/-- // by a divisor of any sign, not 0, below 2 ^ 9000 -/
def CDivZ (_ j : Int) : Prop := j ≠ 0 ∧ j.natAbs.log2 < 9000
theorem op_fdivZ {X : Cx} : OpR X (binaryOp .FloorDiv) (rI CDivZ fun i j => .int (i.fdiv j)) := opI fun _ _ _ _ _ _ _ hc q => floordiv_int hc.1 q (.inl (PyProof.noPylong_of_log2 hc.2))
end AT
namespace AT
open PySem PySem.Spec PyProof.Rows L2
theorem pe_gr {X : Cx} {x : Str} {a : Addr} {pos : Pos} (h : X.mg x = some (.ref a)) (hg : Gl X x := by rfl) (hd : (x == ("__debug__" : Str)) = false := by decide) : PE X (.Name x pos) (tC (.ref a)) := pe_glob hg h rfl hd
end AT
namespace AT
open PySem PySem.Spec PyProof.Rows L2
/-- a def with one default v: called with it left out, and with all given -/
theorem mk_okD1 {P : Program} {w : World} {K : PySem.W.Frag} {mg : Str → Option Value} {base : Heap} {x qual : Str} {st : Stmt} {kws : List (Str × V)} {v : V} {f : Addr} {N ps : List Str} {k n : Nat} {sp : Sp}
    (F : ∃ fd, FunD K x qual (defArgs st) (defBody st) (defScope st) [v] kws f fd) (S : FnScope N ps (defScope st)) (hn : n + 1 = ps.length)
    (hb : ∀ (T : Addr) (kV doc pm : Value) (an : Option Addr) (cdv ct : Value) (us : List Value) (u : Value), us.length = n → ∃ k, bindArgs (PySem.W.fnOf x qual (defArgs st) (defBody st) (defScope st) (.ref T) kV doc pm an cdv ct) ⟨us, []⟩ = seqItems? (.ref T) >>= k ∧ k (some #[u]) = pure (ps.zip (us ++ [u])))
    (hb2 : ∀ (T : Addr) (kV doc pm : Value) (an : Option Addr) (cdv ct : Value) (us : List Value) (u : Value), us.length = n + 1 → ∃ k, bindArgs (PySem.W.fnOf x qual (defArgs st) (defBody st) (defScope st) (.ref T) kV doc pm an cdv ct) ⟨us, []⟩ = seqItems? (.ref T) >>= k ∧ k (some #[u]) = pure (ps.zip us))
    (len : ∀ vs H Q E, sp vs H Q E → vs.length = ps.length)
    (body : ∀ (cdv : Value) (A : Around) (outer : List Env) (s : Shared) (H : Hp) (vs : List V) (Q : VK) (E : XK), Room k (A.deeper (envOfC qual (defScope st) s.heap.objs.size f cdv)) → sp vs H Q E →
      ∃ t, PSs (cxOf (L2.CX P w) P w K mg base N qual (defScope st) f cdv A outer s H E) (defBody st) t ∧ t { nx := fun _ H' => Q .non H', rt := Q } (start N vs) H) :
    Ok P w K mg base (k + 1) f ps sp ∧ OkD P w K mg base (k + 1) f ps [v] sp := by
  obtain ⟨fd, F⟩ := F
  have one : ∀ its : List Value, its.length = 1 → ∃ u, its = [u] := fun its h => List.length_eq_one_iff.mp h
  constructor
  · obtain ⟨ds, vd, b⟩ := F.binds1 (ps := ps) (n + 1) 1 (by simp) (by simpa using hn) (fun T kV doc pm an cdv ct us its h1 h2 => by
      obtain ⟨u, rfl⟩ := one its h2
      obtain ⟨k, e1, e2⟩ := hb2 T kV doc pm an cdv ct us u h1
      exact ⟨k, e1, by simpa using e2⟩)
    cases vd
    exact ⟨fd, F.ok S len body, b, F.kp⟩
  · obtain ⟨ds, vd, b⟩ := F.binds1 (ps := ps) n 0 (by simp) (by simpa using hn) (fun T kV doc pm an cdv ct us its h1 h2 => by
      obtain ⟨u, rfl⟩ := one its h2
      obtain ⟨k, e1, e2⟩ := hb T kV doc pm an cdv ct us u h1
      exact ⟨k, e1, by simpa using e2⟩)
    exact ⟨fd, ds, F.ok S len body, vd, b, F.kp⟩
end AT

set_option maxHeartbeats 4000000
namespace AT
open PySem PySem.Spec PyProof.Rows L2
theorem Same.new {H H' : Hp} {p : Addr} {o : HO} (s : Same H H') (hp : H p = none) : Same H (upd H' p o) := fun b u e => by
  rw [upd_ne (ne_of_none e hp)]
  exact s b u e
theorem Same.up {H : Hp} {p : Addr} {o : HO} (hp : H p = none) : Same H (upd H p o) := Same.new (Same.refl H) hp
theorem Same.tup {K : PySem.W.Frag} {H H' : Hp} {a : Addr} {xs : List V} (e : Same H H') (h : SqT K H a xs) : SqT K H' a xs := by
  rcases h with (h | ⟨o, h⟩) | h
  · exact .inl (.inl (e _ _ h))
  · exact .inl (.inr ⟨o, e _ _ h⟩)
  · exact .inr h
/-- the part of a list that is through, filtered and mapped -/
theorem take_step {α β : Type} {l : List α} {i : Nat} {x : α} (p : α → Bool) (f : α → β) (h : l[i]? = some x) :
    ((l.take (i + 1)).filter p).map f = ((l.take i).filter p).map f ++ (if p x then [f x] else []) := by
  rw [List.take_add_one, h, Option.toList_some, List.filter_append, List.map_append]
  congr 1
  cases hp : p x <;> simp [List.filter, hp]
/-- a comprehension over a text whose element and test only make new objects; the target a name in slot j -/
theorem lc_text {z : Str} {tt : TT} {te : TE} {j : Nat} {vs : List Nat} {σ : L2.St} {H1 : Hp} {D : Addr} {Qd : Hp → Prop} (p : Nat → Bool) (f : Nat → V) (hz : z.cps.size < sizeLine) (hD : H1 D = none)
    (hw : ∀ x, wipe ((wipe σ vs).set j (some x)) vs = wipe σ vs)
    (ht : ∀ (c : Nat) (H : Hp) (R : Bool → Hp → Prop), c ∈ z.cps.toList → Same H1 H → (∀ H', Same H H' → R (p c) H') → tt ((wipe σ vs).set j (some (.str ⟨#[c]⟩))) H R)
    (he : ∀ (c : Nat) (H : Hp) (R : VK), c ∈ z.cps.toList → Same H1 H → (∀ H', Same H H' → R (f c) H') → te ((wipe σ vs).set j (some (.str ⟨#[c]⟩))) H R)
    (hd : ∀ H, Same H1 H → H D = some (.lst ((z.cps.toList.filter p).map f)) → Qd H) :
    ∃ W : Nat → Nat → Hp → Prop, (∃ m, W 0 m (upd H1 D (.lst []))) ∧ ∀ i m H, W i m H →
      ((Its z).stop i H ∧ Qd H) ∨ ((Its z).go i H ∧ ∃ Nx : Hp → Prop, (∀ H', Nx H' → ∃ m', m' < m ∧ W (i + 1) m' H') ∧ ∀ x H', (Its z).yld i H x H' → gName j x (wipe σ vs) H' fun σ2 H2 => wipe σ2 vs = wipe σ vs ∧ tt σ2 H2 fun b H3 =>
        if b = true then te σ2 H3 fun y H4 => ∃ acc, H4 D = some (.lst acc) ∧ acc.length < sizeLine ∧ Nx (upd H4 D (.lst (acc ++ [y]))) else Nx H3) := by
  refine lc_it walk_str (fun i H => Same H1 H ∧ H D = some (.lst (((z.cps.toList.take i).filter p).map f))) ⟨Same.up hD, by rw [upd_same]; rfl⟩ (fun _ _ _ _ => trivial) (fun i x H H' hi hP hY => ?_) (fun H hP => ?_)
  · obtain ⟨sm, hl⟩ := hP
    obtain ⟨rfl, c, hc, rfl⟩ := hY
    have hc' : z.cps.toList[i]? = some c := by rw [Array.getElem?_toList]; exact hc
    have hm : c ∈ z.cps.toList := List.mem_of_getElem? hc'
    have hst := take_step p f hc'
    refine ⟨hw _, ht c H' _ hm sm fun H2 s2 => ?_⟩
    cases hp : p c with
    | false =>
      refine iteF ⟨sm.trans s2, ?_⟩
      rw [hst, hp]
      simpa using s2 _ _ hl
    | true =>
      refine iteT (he c H2 _ hm (sm.trans s2) fun H3 s3 => ⟨_, s3 _ _ (s2 _ _ hl), ?_, ?_, ?_⟩)
      · have h1 : (((z.cps.toList.take i).filter p).map f).length ≤ z.cps.toList.length := by
          rw [List.length_map]
          exact Nat.le_trans (List.length_filter_le _ _) (by rw [List.length_take]; exact Nat.min_le_right _ _)
        have h2 : z.cps.toList.length = z.cps.size := Array.length_toList
        omega
      · exact AT.Same.new ((sm.trans s2).trans s3) hD
      · rw [upd_same, hst, hp]
        rfl
  · obtain ⟨sm, hl⟩ := hP
    have e : z.cps.toList.take z.cps.size = z.cps.toList := by
      rw [← Array.length_toList, List.take_length]
    rw [e] at hl
    exact hd H sm hl
end AT

set_option maxHeartbeats 4000000
namespace AT
open PySem PySem.Spec PyProof.Rows L2
open AutoSeq1 (wpAny_loadPart')
theorem str_declines (z : Str) (u : Tok) (l : Addr) (o : Obj) (es : Array DictEntry) (n : Nat) :
    Meets (Builtin.«str.__eq__» ⟨[.str z u, .ref l], []⟩) (fun _ R s => s.heap.get? l = some o ∧ o.data = .dict es n ∧ R (.ok (.ret .notImplemented)) s) :=
  .of_wp fun prog w A R s h => by
    obtain ⟨hp, g, d, tk, os⟩ := s
    obtain ⟨hl, hc, h⟩ := h
    wp_walk using wpAny_loadPart' hl, wpAny_load hl
    rw [hc]
    wp_walk
    exact ⟨_, rfl, h⟩
section
variable {prog : Program} {w : World} {A : Around} {E : Value → Shared → Prop} {s : Shared}
theorem dict_declines {a : Addr} {z : Str} {u : Tok} {Q : Value → Shared → Prop} (ha : s.TypeIs (.ref a) "dict") (q : Q .notImplemented s) : wpAny (model prog w) A (call (.builtin "dict.__eq__") [.ref a, .str z u]) Q E s := by
  refine wpAny_call_entry PySem.F.slot_dict_eq ha PySem.F.entry_dict_eq ?_ (PySem.F.args_dict_eq_2 _ _)
  show wpAny _ _ (Builtin.Dict.dictSlotArgs "__eq__" ⟨[.ref a, .str z u], []⟩ >>= _) _ _ s
  refine wpAny_bind ?_
  unfold Builtin.Dict.dictSlotArgs
  refine wpAny_bind (wpAny_notOrdered_dict ha ?_)
  show wpAny _ _ (pure (Value.ref a, Value.str z u)) _ _ s
  refine wpAny_pure ?_
  refine wpAny_bind (wpAny_isInstance (T := "str") (typeIs_str s z u) PySem.F.sub_str_dict ?_)
  simp only [Bool.not_false, if_true]
  refine wpAny_bind (wpAny_rule ?_)
  exact wpAny_pure ⟨_, rfl, q⟩
end
/-- an empty dict is unlike a text -/
theorem eq_emp {X : Cx} {pins : List (Addr × Obj)} {σ : L2.St} {H : Hp} {s : Shared} {a : Addr} {z : Str} {u : Tok} {Q : Value → Shared → Prop} {E : Value → Shared → Prop} (I : Inv X pins σ H s) (hu : X.A.units < cLine) (he : H a = some (.dK [])) (q : Q (.bool false) s) :
    wpAny (model X.prog X.w) X.A (compareOp .Eq (.ref a) (.str z u)) Q E s := by
  obtain ⟨_, hs, vs, kv, o, es, ep, ho, hx, hda, _, hp, _⟩ := I.hok _ _ he
  show wpAny _ _ (richCompare .Eq _ _) _ _ _
  have ty : s.TypeIs (.ref a) "dict" := ⟨o, ho, hx.1⟩
  exact SeqAt.rc_eq_decline_or (k := false) ty (typeIs_str s z u) (by decide) PySem.F.sub_str_dict PySem.F.slot_dict_eq PySem.F.slot_str_eq_refl
    (fun _ hq => dict_declines ty hq)
    (fun _ hq => call_meets PySem.F.slot_str_eq_refl (typeIs_str s z u) PySem.F.entry_str_eq (PySem.F.args_str_eq_2 _ _) (str_declines z u a o es ep) ⟨ho, hda, hq⟩)
    (fun _ hq => wpAny_of_eq (rfl : isSame (.ref a) (.str z u) = pure false) hq) (.inr hu) q
/-- x == z of data x, and of an empty dict, and a text z -/
def rEqZ (K : PySem.W.Frag) : R2 := fun x y H Q => ∃ z, y = .str z ∧ ((∃ d, Dp K H x d ∧ SeqAt.shaped d = true ∧ PyData.strOk z = true ∧ Q (.bl (PyData.eqv d (.str z))) H) ∨ ∃ a, x = .ref a ∧ H a = some (.dK []) ∧ Q (.bl false) H)
theorem op_eqZ {X : Cx} (hu : X.A.units + 64 < cLine) : OpR X (compareOp .Eq) (rEqZ X.K) := by
  intro pins s σ H x y v u Q I rx ry h
  obtain ⟨z, rfl, ⟨d, hd, sd, so, q⟩ | ⟨a, rfl, he, q⟩⟩ := h
  · refine op_eqD hu pins s σ H x (.str z) v u Q I rx ry ⟨d, _, hd, .str z, sd, ?_, q⟩
    show (PyData.strOk z && decide (0 ≤ 64)) = true
    rw [so]
    rfl
  · cases rx
    obtain ⟨t, rfl⟩ := ry
    exact eq_emp I (by omega) he ⟨.bl false, H, I, rfl, q⟩
end AT

set_option maxHeartbeats 4000000
namespace AT
open PySem PySem.Spec PyProof.Rows L2
/-- the law's call, from its def's promise -/
theorem lawO {P : Program} {w : World} {K : PySem.W.Frag} {mg mb : Str → Option Value} {CX : CXT} {k : Nat} {fa a : Addr} {x : Str} {sp : Sp} {st : Shared} {vs : List Value} {ns : List Int}
    (KI : K.In st.heap) (hG : st.heap.Ns mainGlobals mg) (hB : st.heap.Ns builtinsNs mb) (hBb : ∀ x : Str, x ≠ "__name__" → mb x = bootBuiltins x) (hNl : st.heap.NoLimit) (hgs : st.gens = #[])
    (hob : st.heap.get? a = some { cls := .type "list", data := .seq vs.toArray }) (hin : IntsAre vs ns) (hsz : ns.length ≤ sizeLine) (hr : Room k callerA)
    (F : ∀ base : Heap, K.In base → base.Ns mainGlobals mg → ∃ fd, FnG P w K mg base CX k fa fd [x] sp ∧ Binds K fd [x] [])
    (hsp : ∀ H : Hp, Only H → SqL K H a (ns.map V.int) → sp [.ref a] H (fun v _ => v = .bl true) fun _ _ _ => False)
    (hno : ∀ H e s', CX [] H st (fun _ _ _ => False) e s' → False) :
    codeAny (model P w) callerA (.call (.ref fa) ⟨[.ref a], []⟩) (fun r s' => r = .ok (.ret (.bool true)) ∧ OldK st.heap s'.heap ∧ s'.os = st.os ∧ AllBare s'.gens) st := by
  have rv := vals_ints hin
  have main : ∀ H : Hp, Only H → SqL K H a (ns.map V.int) → HOk P w H st.heap → (∀ b, H b ≠ none → b = a) → (H a ≠ none → K.lookup a = none) →
      codeAny (model P w) callerA (.call (.ref fa) ⟨[.ref a], []⟩) (fun r s' => r = .ok (.ret (.bool true)) ∧ OldK st.heap s'.heap ∧ s'.os = st.os ∧ AllBare s'.gens) st := by
    intro H hO hS hok hA hKa
    have free : ∀ {b : Addr} {o : Obj} {es : Array DictEntry} {ep : Nat}, st.heap.get? b = some o → o.data = .dict es ep → H b = none := by
      intro b o es ep e d
      cases q : H b with
      | none => rfl
      | some u =>
        obtain rfl : b = a := hA b (by rw [q]; exact Option.some_ne_none u)
        rw [hob] at e
        cases e
        cases d
    have nsH : ∀ {b : Addr} {m : Str → Option Value}, st.heap.Ns b m → (hidT st.heap H).Ns b m := by
      rintro b m ⟨o, es, ep, e, d, rr⟩
      exact ⟨o, es, ep, hidT_get e (free e d), d, rr⟩
    have KH : K.In (hidT st.heap H) := by
      intro b o e
      refine hidT_get (KI b o e) ?_
      cases q : H b with
      | none => rfl
      | some u =>
        obtain rfl : b = a := hA b (by rw [q]; exact Option.some_ne_none u)
        rw [hKa (by rw [q]; exact Option.some_ne_none u)] at e
        cases e
    have hM : Mod K mg (hidT st.heap H) := by
      obtain ⟨mc, h1, h2⟩ := hNl
      exact ⟨KH, nsH hG, ⟨mb, nsH hB, hBb⟩, ⟨mc, nsH h1, h2⟩⟩
    have e0 : Env0 P w K mg (hidT st.heap H) callerA [] st H :=
      { frames := rfl, mod := hM, bs := fun b o e => of_hidT e, bsz := Nat.le_of_eq (hidT_size _ _), funs := trivial, frf := (by intro b hb; exact absurd hb (by simp [frs])), hok := hok, bare := .of_eq hgs }
    obtain ⟨fd, hF, hbd⟩ := F _ KH (nsH hG)
    refine codeAny_mono (hF.run callerA [] st H ⟨[.ref a], []⟩ [.ref a] [.ref a] _ _ rfl hr e0 (hbd st [.ref a] KI rfl) (.cons rfl .nil) (hsp H hO hS)) fun r s' h => ?_
    cases r with
    | error e => exact (hno H e s' h).elim
    | ok fl =>
      cases fl with
      | ret u =>
        obtain ⟨v, H', eos, br, un, hok', r', q⟩ := h
        obtain rfl : v = .bl true := q
        obtain rfl : u = Value.bool true := r'
        refine ⟨rfl, OldK.of_keep fun b o e => ?_, eos, br⟩
        cases q : H b with
        | none => exact un.keep b o e q (by simp [frs]) (by simp)
        | some u =>
          rcases hO b with z | ⟨ob, xs, z⟩
          · rw [q] at z
            cases z
          · have y2 := (hok' b _ (un.frzs b ob _ z)).1
            have y1 := (hok b _ z).1
            rw [e] at y1
            cases y1
            exact y2
      | _ => exact False.elim h
  cases hk : K.lookup a with
  | some o =>
    have e := KI a o hk
    rw [hob] at e
    cases e
    refine main (fun _ => none) (fun _ => .inl rfl) (.inr ⟨_, vs.toArray, _, hk, rfl, rfl, rfl, ?_, by simpa using rv⟩) ?_ (fun b z => absurd rfl z) fun z => absurd rfl z
    · rw [List.size_toArray, hin.length]
      exact hsz
    · intro b u z
      exact nomatch (show (none : Option HO) = some u from z)
  | none =>
    let o1 : Obj := { cls := .type "list", data := .seq vs.toArray }
    refine main (fun b => if b = a then some (.frz o1 (.lst (ns.map V.int))) else none) (fun b => ?_) (.inl (.inr ⟨o1, if_pos rfl⟩)) (fun b u z => ?_) (fun b z => ?_) fun _ => hk
    · by_cases hb : b = a
      · exact .inr ⟨_, _, if_pos hb⟩
      · exact .inl (if_neg hb)
    · by_cases hb : b = a
      · have y := (if_pos hb).symm.trans z
        cases y
        subst hb
        exact ⟨hob, by rw [List.length_map]; exact hsz, vs, _, rv, hob⟩
      · have y := (if_neg hb).symm.trans z
        cases y
    · by_cases hb : b = a
      · exact hb
      · exact absurd (if_neg hb) z
theorem walkO {l : PySem.W.OpenLaw} {n k : Nat} {q : Program} {loose : List Str} {XP : (Str → Option Value) → Heap → Prop} {YP : World → Heap → Prop} {d : DefRec} {CX : World → CXT} {x : Str}
    (hn : l.most = some n) (hn2 : n ≤ sizeLine) (hdf : d.params.defaults = []) (hr : Room k callerA)
    (F : ∀ (w : World) (mg : Str → Option Value) (fa : Addr) (h : Heap), YP w h → h.Ns mainGlobals mg → mg d.name = some (.ref fa) →
      ∃ (K : PySem.W.Frag) (sp : Sp), K.In h ∧
        (∀ (H : Hp) (a : Addr) (ns : List Int), ns.length ≤ n → Only H → SqL K H a (ns.map V.int) → sp [.ref a] H (fun v _ => v = .bl true) fun _ _ _ => False) ∧
        ∀ base : Heap, K.In base → base.Ns mainGlobals mg → ∃ fd, FnG l.prog w K mg base (CX w) k fa fd [x] sp ∧ Binds K fd [x] [])
    (hno : ∀ (w : World) (H : Hp) (s : Shared) (e : Value) (s' : Shared), CX w [] H s (fun _ _ _ => False) e s' → False) :
    PySem.W.WalkO q loose XP YP l.row.toRowW d [] (fun f vs => PySem.call f vs) := by
  refine Att.attach_call hn hdf fun w _ st mg mb fa o pm cd doc a vs ns G Y _ _ _ hmg hob hin hlen hgs => ?_
  obtain ⟨K, sp, KI, hsp, hF⟩ := F w mg fa _ Y G.T.g hmg
  exact lawO KI G.T.g G.T.b G.T.builtins G.T.nolimit hgs hob hin (Nat.le_trans hlen hn2) hr hF (fun H hO hS => hsp H a ns hlen hO hS) fun H e s' => hno w H st e s'
end AT

set_option maxHeartbeats 4000000
namespace AT
open PySem PySem.Spec PyProof.Rows L2
/-! ### operators by an own class's method -/
def tyNames : List String := ["NoneType", "bool", "int", "str", "list", "tuple", "dict"]
/-- C answers the operator nm by its def f -/
structure OpC (K : PySem.W.Frag) (C f : Addr) (nm : String) : Prop where
  first : PySem.W.selfFirst K C = true
  find : PySem.W.findIn K (.ref C) (PySem.dunder nm) = some (some (.ref f))
  fn : PySem.W.isFn K (.ref f) = true
  back : PySem.W.findIn K (.ref C) (PySem.dunderR nm) = some none
  ty : ∀ T ∈ tyNames, ∃ fo ro, PySem.W.findIn K (.type T) (PySem.dunder nm) = some fo ∧ PySem.W.findIn K (.type T) (PySem.dunderR nm) = some ro ∧ PySem.W.subIn K (.type T) (.ref C) = some false
def opcB (x m : Str) (nm : String) (K : PySem.W.Frag) : Bool :=
  PySem.W.selfFirst K (He.ga K x) && (He.eqO (PySem.W.findIn K (.ref (He.ga K x)) (PySem.dunder nm)) (some (some (.ref (He.ma K (He.ga K x) m)))) && (PySem.W.isFn K (.ref (He.ma K (He.ga K x) m)) && (He.eqO (PySem.W.findIn K (.ref (He.ga K x)) (PySem.dunderR nm)) (some none) &&
    tyNames.all fun T => (PySem.W.findIn K (.type T) (PySem.dunder nm)).isSome && ((PySem.W.findIn K (.type T) (PySem.dunderR nm)).isSome && decide (PySem.W.subIn K (.type T) (.ref (He.ga K x)) = some false)))))
theorem opc_ok {x m : Str} {nm : String} {K : PySem.W.Frag} (h : opcB x m nm K = true) : OpC K (He.ga K x) (He.ma K (He.ga K x) m) nm := by
  unfold opcB at h
  simp only [Bool.and_eq_true, List.all_eq_true] at h
  obtain ⟨h1, h2, h3, h4, h5⟩ := h
  refine ⟨h1, He.eqO_ok h2, h3, He.eqO_ok h4, fun T hT => ?_⟩
  obtain ⟨a, b, c⟩ := h5 T hT
  obtain ⟨fo, ea⟩ := Option.isSome_iff_exists.mp a
  obtain ⟨ro, eb⟩ := Option.isSome_iff_exists.mp b
  exact ⟨fo, ro, ea, eb, of_decide_eq_true c⟩
/-- the other operand of a built-in type -/
theorem bin_ty {prog : Program} {w : World} {A : Around} {E : Value → Shared → Prop} {t : Shared} {K : PySem.W.Frag} {p C f : Addr} {oo : Obj} {od : Option Obj} {op : Operator} {u : Value} {T : String} {R : Value → Shared → Prop}
    (KI : K.In t.heap) (J : PySem.W.InstAt t.heap p oo C od) (hu : PySem.W.Looks (model prog w) t.heap (typeOf u) (.type T)) (O : OpC K C f op.info.2) (hT : T ∈ tyNames)
    (go : wpAny (model prog w) A (call (.ref f) [.ref p, u]) (PySem.W.CmpBack R) E t) : wpAny (model prog w) A (binaryOp op (.ref p) u) R E t := by
  obtain ⟨fo, ro, e1, e2, e3⟩ := O.ty T hT
  obtain ⟨cd, rest, ec, em⟩ := PySem.W.ksp_first O.first
  have first := O.find
  have back := O.back
  have fnn := O.fn
  rcases ei : op.info with ⟨sy, nm⟩
  rw [ei] at first back e1 e2
  dsimp only at first back e1 e2
  have turn := PySem.W.ksp_try KI J first fnn go
  obtain ⟨g0, g1, g2, g3, g4⟩ := t
  have k1 : PySem.W.Looks (model prog w) g0 (typeOf (.ref p)) (.ref C) := J.type
  have k2 : PySem.W.Looks (model prog w) g0 (typeOf u) (.type T) := hu
  have k3 : PySem.W.Looks (model prog w) g0 (fillsNumberSlot (.ref C) nm) true := PySem.W.fills_K KI ec em first
  have k4 : PySem.W.Looks (model prog w) g0 (fillsNumberSlot (.type T) nm) ((fo.isSome && !isSeqSlot fo) || (ro.isSome && !isSeqSlot ro)) := PySem.W.ksp_fillsT KI e1 e2
  have k5 : PySem.W.Looks (model prog w) g0 (isSubtype (.type T) (.ref C)) false := PySem.W.looks_subIn KI e3
  have k6 : PySem.W.Looks (model prog w) g0 (numberSlotInPython (.ref C) nm) true := PySem.W.ksp_inPy KI first back (.inl rfl)
  have k7 : PySem.W.Looks (model prog w) g0 (numberSlotInPython (.type T) nm) false := PySem.W.Looks.of_pure rfl
  have k8 : PySem.W.Looks (model prog w) g0 (typeLookup (.type T) (dunderR nm)) ro := PySem.W.looks_findIn KI e2
  generalize ((fo.isSome && !isSeqSlot fo) || (ro.isSome && !isSeqSlot ro)) = rr at k4
  have ne : (Value.ref C == Value.type T) = false := Bool.eq_false_iff.mpr fun z => by cases beq_iff_eq.mp z
  simp only [binaryOp, ei]
  refine wpAny_holding (wpAny_bind ?_)
  unfold binaryOp1
  refine wpAny_bind (k1.at (wpAny_bind (k2.at (wpAny_bind (k3.at ?_)))))
  simp only [ne, Bool.false_eq_true, if_false]
  cases rr
  all_goals
    ksp_lk
    refine wpAny_mono turn (fun r t' z => ?_) fun _ _ z => z
    obtain ⟨v, rfl, z⟩ := z
    ksp_lk
    exact z
/-- x op y by the def of x's class -/
def rOwn (K : PySem.W.Frag) (C : Addr) (sp : Sp) (E : XK) : R2 := fun x y H Q => ∃ p d fs t, x = .ref p ∧ H p = some (.ins C d fs) ∧ TyX K H y t ∧ (t = .ref C ∨ ∃ T, t = .type T ∧ T ∈ tyNames) ∧ sp [.ref p, y] H Q E
theorem ep_back {X : Cx} {pins : List (Addr × Obj)} {σ : L2.St} {Q : VK} {v : Value} {s : Shared} (h : EP X pins σ Q v s) : PySem.W.CmpBack (EP X pins σ Q) v s := by
  obtain ⟨x, H, I, r, q⟩ := id h
  cases v with
  | notImplemented =>
    cases x <;> first | exact nomatch r | (obtain ⟨_, z⟩ := r; exact nomatch z)
  | _ => exact h
section
variable {X : Cx} {C f : Addr} {k : Nat} {ps : List Str} {sp : Sp} {E : XK}
theorem op_own {op : Operator} (O : OpC X.K C f op.info.2) (F : Ok X.prog X.w X.K X.mg X.base k f ps sp) (hr : Room k X.A) (hx : Passes (L2.CX X.prog X.w) X E) : OpR X (binaryOp op) (rOwn X.K C sp E) := by
  intro pins s σ H x y v u Q I rx ry h
  obtain ⟨p, d, fs, t, rfl, hp, ty, ht, hsp⟩ := h
  obtain ⟨fd, F1, b, kp⟩ := F
  cases rx
  obtain ⟨mA, J, _⟩ := ins_get I.hok hp
  obtain ⟨od, J, _⟩ := J.look
  obtain ⟨P, kx, hP, _⟩ := kit_of I ry ty
  have look : PySem.W.Looks (model X.prog X.w) s.heap (typeOf u) t := kx.ty _ _ I.kIn hP
  have run : wpAny (model X.prog X.w) X.A (call (.ref f) [.ref p, u]) (PySem.W.CmpBack (EP X pins σ Q)) X.xe s :=
    wpAny_mono (run_fn (us := [.ref p, u]) (vs := [.ref p, y]) (ds := []) (dvs := []) F1 hr b .nil hx I (.cons rfl (.cons ry .nil)) hsp) (fun _ _ z => ep_back z) fun _ _ z => z
  rcases ht with rfl | ⟨T, rfl, hT⟩
  · obtain ⟨m, hF⟩ := I.fr
    exact PySem.W.binop_K hF I.ok.mod.kin J look O.first O.find O.fn run
  · exact bin_ty I.kIn J look O hT run
/-- -x by the def of x's class -/
def rOwn1 (C : Addr) (sp : Sp) (E : XK) : V → Hp → VK → Prop := fun x H Q => ∃ p d fs, x = .ref p ∧ H p = some (.ins C d fs) ∧ sp [.ref p] H Q E
theorem un_own (hs : PySem.W.findIn X.K (.ref C) "__neg__" = some (some (.ref f))) (hf : PySem.W.isFn X.K (.ref f) = true) (F : Ok X.prog X.w X.K X.mg X.base k f ps sp) (hr : Room k X.A) (hx : Passes (L2.CX X.prog X.w) X E) : UnR X (unaryOp .USub) (rOwn1 C sp E) := by
  intro pins s σ H x v Q I rx h
  obtain ⟨p, d, fs, rfl, hp, hsp⟩ := h
  obtain ⟨fd, F1, b, kp⟩ := F
  cases rx
  obtain ⟨mA, J, _⟩ := ins_get I.hok hp
  obtain ⟨od, J, _⟩ := J.look
  obtain ⟨m, hF⟩ := I.fr
  exact PySem.W.ksp_neg hF I.ok.mod.kin J hs hf (run_fn (us := [.ref p]) (vs := [.ref p]) (ds := []) (dvs := []) F1 hr b .nil hx I (.cons rfl .nil) hsp)
end
end AT

set_option maxHeartbeats 4000000
namespace AT
open PySem PySem.Spec PyProof.Rows L2
/-! ### == and != by an own class's __eq__ -/
structure EqC (K : PySem.W.Frag) (C f : Addr) : Prop where
  find : PySem.W.findIn K (.ref C) "__eq__" = some (some (.ref f))
  fn : PySem.W.isFn K (.ref f) = true
  sub : ∀ T ∈ tyNames, PySem.W.subIn K (.type T) (.ref C) = some false
  ne : PySem.W.findIn K (.ref C) "__ne__" = some (some (.builtin "object.__ne__"))
  obj : PySem.W.mroIn K C (.type "object") = some true
def eqcB (x : Str) (K : PySem.W.Frag) : Bool :=
  He.eqO (PySem.W.findIn K (.ref (He.ga K x)) "__eq__") (some (some (.ref (He.ma K (He.ga K x) "__eq__")))) && (PySem.W.isFn K (.ref (He.ma K (He.ga K x) "__eq__")) && ((tyNames.all fun T => decide (PySem.W.subIn K (.type T) (.ref (He.ga K x)) = some false)) &&
    (He.eqO (PySem.W.findIn K (.ref (He.ga K x)) "__ne__") (some (some (.builtin "object.__ne__"))) && decide (PySem.W.mroIn K (He.ga K x) (.type "object") = some true))))
theorem eqc_ok {x : Str} {K : PySem.W.Frag} (h : eqcB x K = true) : EqC K (He.ga K x) (He.ma K (He.ga K x) "__eq__") := by
  unfold eqcB at h
  simp only [Bool.and_eq_true, List.all_eq_true] at h
  obtain ⟨h1, h2, h3, h4, h5⟩ := h
  exact ⟨He.eqO_ok h1, h2, fun T hT => of_decide_eq_true (h3 T hT), He.eqO_ok h4, of_decide_eq_true h5⟩
section
variable {X : Cx} {C f : Addr} {k : Nat} {ps : List Str} {sp : Sp} {E : XK}
/-- the callee runs a little deeper in C -/
theorem run_in {A : Around} {fd : FuncData} {pins : List (Addr × Obj)} {σ : L2.St} {H : Hp} {s : Shared} {Q : VK} {us : List Value} {vs : List V} (hA : A.frames = X.A.frames) (F : FnOk X.prog X.w X.K X.mg X.base (L2.CX X.prog X.w) k f fd ps sp) (hr : Room k A) (hb : Binds X.K fd ps [])
    (hx : Passes (L2.CX X.prog X.w) X E) (I : Inv X pins σ H s) (r : Vals vs us) (h : sp vs H Q E) : wpAny (model X.prog X.w) A (call (.ref f) us) (EP X pins σ Q) X.xe s := by
  have hl : us.length = ps.length := by rw [← r.length]; exact F.len _ _ _ _ h
  have e := I.env0
  have e0 : Env0 X.prog X.w X.K X.mg X.base A X.stack s H := ⟨by rw [hA]; exact e.frames, e.mod, e.bs, e.bsz, e.funs, e.frf, e.hok, e.bare⟩
  have b := hb s us I.kIn (by simpa using hl)
  rw [List.append_nil] at b
  refine wpAny_call (codeAny_mono (F.run A X.stack s H ⟨us, []⟩ us vs Q E hr e0 b r h) fun res s' hq => ?_)
  cases res with
  | error er => exact hx pins σ H s er s' I hq
  | ok fl =>
    cases fl with
    | ret u => exact I.after hq
    | _ => exact False.elim hq
def OfTy (K : PySem.W.Frag) (H : Hp) (C : Addr) (y : V) : Prop := ∃ t, TyX K H y t ∧ (t = .ref C ∨ ∃ T, t = .type T ∧ T ∈ tyNames)
def rEqO (K : PySem.W.Frag) (C : Addr) (sp : Sp) (E : XK) : R2 := fun x y H Q => ∃ p d fs, x = .ref p ∧ H p = some (.ins C d fs) ∧ OfTy K H C y ∧ sp [.ref p, y] H Q E
def rNeO (K : PySem.W.Frag) (C : Addr) (sp : Sp) (E : XK) : R2 := fun x y H Q => ∃ p d fs, x = .ref p ∧ H p = some (.ins C d fs) ∧ OfTy K H C y ∧ sp [.ref p, y] H (fun v H' => ∃ b, v = .bl b ∧ Q (.bl !b) H') E
theorem not_first {K : PySem.W.Frag} {t : Value} (O : EqC K C f) (h : t = .ref C ∨ ∃ T, t = .type T ∧ T ∈ tyNames) : PySem.W.notFirst K C t = true := by
  unfold PySem.W.notFirst
  rcases h with rfl | ⟨T, rfl, hT⟩
  · simp
  · rw [O.sub T hT]
    simp
theorem op_eqO (O : EqC X.K C f) (F : Ok X.prog X.w X.K X.mg X.base k f ps sp) (hr : Room k X.A) (hx : Passes (L2.CX X.prog X.w) X E) : OpR X (compareOp .Eq) (rEqO X.K C sp E) := by
  intro pins s σ H x y v u Q I rx ry h
  obtain ⟨p, d, fs, rfl, hp, ⟨t, ty, ht⟩, hsp⟩ := h
  obtain ⟨fd, F1, b, kp⟩ := F
  cases rx
  obtain ⟨mA, J, _⟩ := ins_get I.hok hp
  obtain ⟨od, J, _⟩ := J.look
  obtain ⟨P, kx, hP, _⟩ := kit_of I ry ty
  obtain ⟨m, hF⟩ := I.fr
  exact PySem.W.cmp_K (op := .Eq) hr.units0 hF I.ok.mod.kin J (kx.ty _ _ I.kIn hP) (not_first O ht) O.find O.fn
    (wpAny_mono (run_in (us := [.ref p, u]) (vs := [.ref p, y]) rfl F1 hr b hx I (.cons rfl (.cons ry .nil)) hsp) (fun _ _ z => ep_back z) fun _ _ z => z)
/-- object.__ne__ of an instance asks its class's __eq__ -/
theorem ne_body {prog : Program} {w : World} {A : Around} {E1 : Value → Shared → Prop} {t : Shared} {K : PySem.W.Frag} {p C f : Addr} {oo : Obj} {od : Option Obj} {u : Value} {R : Fin → Shared → Prop} (KI : K.In t.heap) (J : PySem.W.InstAt t.heap p oo C od) (O : EqC K C f) (hu : A.units < cLine)
    (go : wpAny (model prog w) A (call (.ref f) [.ref p, u]) (fun v t' => ∃ b, v = .bool b ∧ R (.done (.ret (.bool (!b)))) t') E1 t) : wpAny (model prog w) A (Builtin.«object.__ne__» ⟨[.ref p, u], []⟩) R E1 t := by
  unfold Builtin.«object.__ne__»
  show wpAny _ _ (cRoomFor "comparison" [.ref p, u] >>= _) _ _ _
  refine wpAny_bind (wpAny_cRoomFor hu ?_)
  refine wpAny_bind (m := callSpecialIfBound? (.ref p) (Str.ofString "__eq__") [u]) (PySem.W.ifBound_K KI J O.find O.fn (wpAny_mono go (fun v t' z => ?_) fun _ _ z => z))
  obtain ⟨b, rfl, z⟩ := z
  exact wpAny_bind (wpAny_truthy_bool (wpAny_pure z))
theorem ne_bound {M : Model} {A : Around} {E1 : Value → Shared → Prop} {t : Shared} {K : PySem.W.Frag} {p C : Addr} {oo : Obj} {od : Option Obj} {us : List Value} {R : Option Value → Shared → Prop} (KI : K.In t.heap) (J : PySem.W.InstAt t.heap p oo C od)
    (hs : PySem.W.findIn K (.ref C) "__ne__" = some (some (.builtin "object.__ne__"))) (go : wpAny M A (call (.builtin "object.__ne__") (.ref p :: us)) (fun v => R (some v)) E1 t) : wpAny M A (callSpecialIfBound? (.ref p) "__ne__" us) R E1 t := by
  simp only [callSpecialIfBound?, bindSpecialIfBound?]
  refine wpAny_holding (wpAny_bind (wpAny_bind (wpAny_bind (J.type.here ((PySem.W.looks_findIn KI hs).here ?_)))))
  refine wpAny_bind (wpAny_askSetting (wpAny_ite ?_))
  have last : wpAny M A (call (.builtin "object.__ne__") ([.ref p] ++ us) >>= fun v => pure (some v)) R E1 t := wpAny_bind (wpAny_mono go (fun v t' z => wpAny_pure z) fun _ _ z => z)
  split
  · exact wpAny_bind (wpAny_of_eq (F.cmp_object.ne.bind _) (wpAny_pure (by exact last)))
  · exact wpAny_tryCatch (wpAny_bind (wpAny_of_eq (F.cmp_object.ne.bind _) (wpAny_pure (by exact last))))
theorem ne_own {prog : Program} {w : World} {A : Around} {E1 : Value → Shared → Prop} {t : Shared} {K : PySem.W.Frag} {p C f : Addr} {oo : Obj} {od : Option Obj} {u ty : Value} {R : Value → Shared → Prop} (KI : K.In t.heap) (J : PySem.W.InstAt t.heap p oo C od) (O : EqC K C f) (hu : A.units + 1 < cLine)
    (hty : PySem.W.Looks (model prog w) t.heap (typeOf u) ty) (hn : PySem.W.notFirst K C ty = true)
    (go : wpAny (model prog w) A.in1 (call (.ref f) [.ref p, u]) (fun v t' => ∃ b, v = .bool b ∧ R (.bool (!b)) t') E1 t) : wpAny (model prog w) A (compareOp .NotEq (.ref p) u) R E1 t := by
  have turn : wpAny (model prog w) A (tryCompare (.ref p) "__ne__" u) (fun r t' => ∃ v, r = some v ∧ R v t') E1 t := by
    unfold tryCompare
    refine wpAny_bind (ne_bound KI J O.ne (wpAny_call (codeAny_call_builtin F.cmp_object.ne.plain F.cmpEntry_ne (PySem.W.check_slot F.cmpKind_ne F.cmpSplit_ne (J.type.andThen (PySem.W.looks_mroIn KI O.obj)) (F.cmpArgs_ne _ _)
      (ne_body (A := A.in1) KI J O hu (wpAny_mono go (fun v t' z => ?_) fun _ _ z => z))))))
    obtain ⟨b, rfl, z⟩ := z
    exact ⟨b, rfl, wpAny_pure ⟨_, rfl, z⟩⟩
  show wpAny _ _ (richCompare .NotEq _ _) _ _ _
  simp only [richCompare, cmpInfo_NotEq, oneThing_ref]
  refine wpAny_holding (wpAny_bind (wpAny_cRoomFor (Nat.lt_of_succ_lt hu) ?_))
  refine wpAny_bind (J.type.here (wpAny_bind (hty.here ?_)))
  split
  · rename_i z
    have e : PySem.W.subIn K ty (.ref C) = some false := by
      rcases Bool.or_eq_true_iff.mp hn with e | e
      · rw [beq_iff_eq.mp e] at z
        simp at z
      · exact beq_iff_eq.mp e
    refine wpAny_bind ((PySem.W.looks_subIn KI e).here ?_)
    simp only [Bool.false_eq_true, if_false]
    refine wpAny_bind (wpAny_mono turn (fun r t' y => ?_) fun _ _ y => y)
    obtain ⟨v, rfl, y⟩ := y
    exact wpAny_pure y
  · refine wpAny_bind (wpAny_pure ?_)
    simp only [Bool.false_eq_true, if_false]
    refine wpAny_bind (wpAny_mono turn (fun r t' y => ?_) fun _ _ y => y)
    obtain ⟨v, rfl, y⟩ := y
    exact wpAny_pure y
theorem op_neO (O : EqC X.K C f) (F : Ok X.prog X.w X.K X.mg X.base k f ps sp) (hr : Room (k + 1) X.A) (hx : Passes (L2.CX X.prog X.w) X E) : OpR X (compareOp .NotEq) (rNeO X.K C sp E) := by
  intro pins s σ H x y v u Q I rx ry h
  obtain ⟨p, d, fs, rfl, hp, ⟨t, ty, ht⟩, hsp⟩ := h
  obtain ⟨fd, F1, b, kp⟩ := F
  cases rx
  obtain ⟨mA, J, _⟩ := ins_get I.hok hp
  obtain ⟨od, J, _⟩ := J.look
  obtain ⟨P, kx, hP, _⟩ := kit_of I ry ty
  refine ne_own I.kIn J O (by have := hr.un; omega) (kx.ty _ _ I.kIn hP) (not_first O ht) (wpAny_mono (run_in (A := X.A.in1) (us := [.ref p, u]) (vs := [.ref p, y]) rfl F1 hr.in1 b hx I (.cons rfl (.cons ry .nil)) hsp) (fun v s' z => ?_) fun _ _ z => z)
  obtain ⟨xv, H', I', rz, bb, rfl, q⟩ := z
  cases rz
  exact ⟨bb, rfl, .bl _, H', I', rfl, q⟩
end
end AT

set_option maxHeartbeats 4000000
namespace AT
open PySem PySem.Spec PyProof.Rows L2
section
variable {X : Cx} {k : Nat} {f C : Addr} {ps : List Str} {sp : Sp} {dvs : List V} {E : XK} {x m : Str} {p pos apos : Pos} {e o : Expr} {es : List Expr} {ta : TE} {t : TA}
/-- o.m(..) -/
theorem ok_meth {pl : Sem Bool} (c : Cls X.K C) (hm : Meth X.K C m f) (F : Ok X.prog X.w X.K X.mg X.base k f ps sp) (hr : Room k X.A) (hx : Passes (L2.CX X.prog X.w) X E) (he : PE X o ta) (ha : PA X (e :: es) t)
    (hst : starEach (e :: es) X.env = (false, eval e X.env) :: starEach es X.env := by rfl) (hpl : (backTo pos (starEach es X.env)).any (·.1) = false := by rfl)
    (ht : eval (.Call (.Attribute o m apos) (e :: es) [] pos) X.env = (do
      let w0 ← eval o X.env
      standAt apos.atName
      let (g0, us0) ← holding [w0] (getMethod w0 m pl)
      callWith pos g0 us0 (backTo pos (starEach (e :: es) X.env)) (backToKw pos (keywordEach [] X.env))) := by rfl) :
    PE X (.Call (.Attribute o m apos) (e :: es) [] pos) (tMeth C m sp [] E ta t) := by
  obtain ⟨fd, F1, b, kp⟩ := F
  exact pe_meth he c hm F1 hr b .nil hx ha hst hpl ht
theorem ok_meth0 {pl : Sem Bool} (c : Cls X.K C) (hm : Meth X.K C m f) (F : Ok X.prog X.w X.K X.mg X.base k f ps sp) (hr : Room k X.A) (hx : Passes (L2.CX X.prog X.w) X E) (he : PE X o ta)
    (ht : eval (.Call (.Attribute o m apos) [] [] pos) X.env = (do
      let w0 ← eval o X.env
      standAt apos.atName
      let (g0, us0) ← holding [w0] (getMethod w0 m pl)
      callWith pos g0 us0 (backTo pos (starEach [] X.env)) (backToKw pos (keywordEach [] X.env))) := by rfl) :
    PE X (.Call (.Attribute o m apos) [] [] pos) (tMeth C m sp [] E ta tNil) := by
  obtain ⟨fd, F1, b, kp⟩ := F
  exact pe_meth0 he c hm F1 hr b .nil hx ht
end
/-! ### lists of the very same objects and of flat values -/
def EqPair (x y : V) (b : Bool) : Prop := (∃ a, x = .ref a ∧ y = .ref a ∧ b = true) ∨ (flatV x = true ∧ flatV y = true ∧ b = eqV x y)
theorem EqPair.at {A : Around} {s : Shared} {x y : V} {u v : Value} {b : Bool} (h : EqPair x y b) (rx : RelV x u) (ry : RelV y v) : SeqAt.EqAt A s u v b := by
  rcases h with ⟨a, rfl, rfl, rfl⟩ | ⟨h1, h2, rfl⟩
  · cases rx
    cases ry
    exact SeqAt.EqAt.same _
  · exact eqAt_V rx ry h1 h2
def AlikeL (K : PySem.W.Frag) (x y : V) (H : Hp) (e : Nat → Bool) (n : Nat) : Prop := ∃ a b xs ys, x = .ref a ∧ y = .ref b ∧ SqL K H a xs ∧ SqL K H b ys ∧ xs.length = n ∧ ys.length = n ∧ ∀ i x y, xs[i]? = some x → ys[i]? = some y → EqPair x y (e i)
def rEqI (K : PySem.W.Frag) : R2 := fun x y H Q => ∃ e n, AlikeL K x y H e n ∧ Q (.bl ((List.range n).all e)) H
def rNeI (K : PySem.W.Frag) : R2 := fun x y H Q => ∃ e n, AlikeL K x y H e n ∧ Q (.bl (!(List.range n).all e)) H
section
variable {X : Cx}
theorem alike_lists {pins : List (Addr × Obj)} {σ : L2.St} {H : Hp} {s : Shared} {x y : V} {u v : Value} {e : Nat → Bool} {n : Nat} (I : Inv X pins σ H s) (rx : RelV x u) (ry : RelV y v) (h : AlikeL X.K x y H e n) :
    ∃ (a b : Addr) (is js : Array Value), u = .ref a ∧ v = .ref b ∧ s.heap.IsList a is ∧ s.heap.IsList b js ∧ is.size = n ∧ js.size = n ∧ ∀ (A : Around) j (h1 : j < is.size) (h2 : j < js.size), SeqAt.EqAt A s is[j] js[j] (e j) := by
  obtain ⟨a, b, xs, ys, rfl, rfl, ha, hb, la, lb, hp⟩ := h
  cases rx
  cases ry
  obtain ⟨its, rv, pl, _⟩ := I.list ha
  obtain ⟨jts, rw, ql, _⟩ := I.list hb
  refine ⟨a, b, its.toArray, jts.toArray, rfl, rfl, pl.isList, ql.isList, ?_, ?_, fun A j h1 h2 => ?_⟩
  · rw [List.size_toArray, ← rv.length]; exact la
  · rw [List.size_toArray, ← rw.length]; exact lb
  · rw [List.size_toArray] at h1 h2
    have g1 : j < xs.length := by rw [rv.length]; exact h1
    have g2 : j < ys.length := by rw [rw.length]; exact h2
    obtain ⟨u1, e1, r1⟩ := rv.get (List.getElem?_eq_getElem g1)
    obtain ⟨u2, e2, r2⟩ := rw.get (List.getElem?_eq_getElem g2)
    rw [List.getElem?_eq_getElem h1] at e1
    rw [List.getElem?_eq_getElem h2] at e2
    cases e1
    cases e2
    exact (hp j _ _ (List.getElem?_eq_getElem g1) (List.getElem?_eq_getElem g2)).at r1 r2
theorem op_eqI (hu : X.A.units + 64 < cLine) : OpR X (compareOp .Eq) (rEqI X.K) := by
  intro pins s σ H x y v u Q I rx ry h
  obtain ⟨e, n, al, q⟩ := h
  obtain ⟨a, b, is, js, rfl, rfl, l1, l2, n1, n2, el⟩ := alike_lists I rx ry al
  refine (SeqAt.RcAt.lists (e := e) l1 l2 (by rw [n1, n2]) (by omega) (el _)) X.prog X.w X.xe _ ?_
  rw [n1]
  exact ⟨.bl _, H, I, rfl, q⟩
theorem op_neI (hu : X.A.units + 64 < cLine) : OpR X (compareOp .NotEq) (rNeI X.K) := by
  intro pins s σ H x y v u Q I rx ry h
  obtain ⟨e, n, al, q⟩ := h
  obtain ⟨a, b, is, js, rfl, rfl, l1, l2, n1, n2, el⟩ := alike_lists I rx ry al
  refine (SeqAt.RcNeAt.lists (e := e) l1 l2 (by rw [n1, n2]) (by omega) (el _)) X.prog X.w X.xe _ ?_
  rw [n1]
  exact ⟨.bl _, H, I, rfl, q⟩
end
/-- what is never reached -/
theorem pe_never {X : Cx} {e : Expr} : PE X e (fun _ _ _ => False) := ⟨fun _ _ _ _ _ _ z => z.elim⟩
/-! ### defaults that are objects -/
def dflA (loc : PySem.W.Frag → Addr) (i : Nat) (K : PySem.W.Frag) : Addr := match K.lookup (loc K) with
  | some ⟨_, _, .func u, _⟩ => (match u.defaults with
    | .ref T => (match K.lookup T with
      | some ⟨_, _, .seq its _, _⟩ => (match its[i]? with
        | some (.ref a) => a
        | _ => 0)
      | _ => 0)
    | _ => 0)
  | _ => 0
def tup0B (a : PySem.W.Frag → Addr) (K : PySem.W.Frag) : Bool := match K.lookup (a K) with
  | some ⟨.type "tuple", _, .seq its _, _⟩ => its.isEmpty
  | _ => false
theorem tup0_ok {a : PySem.W.Frag → Addr} {K : PySem.W.Frag} (h : tup0B a K = true) (H : Hp) : SqT K H (a K) [] := by
  unfold tup0B at h
  split at h
  · rename_i d its n sl e
    have z : its = #[] := by simpa using h
    subst z
    exact .inr ⟨_, _, _, e, rfl, rfl, Nat.zero_le _, .nil⟩
  · cases h
end AT

set_option maxHeartbeats 4000000
namespace AT
open PySem PySem.Spec PyProof.Rows L2
open AutoSeq1 (wpAny_loadPart')
/-! ### enumerate of a tuple -/
abbrev tupIt (t : Addr) : Obj := { cls := .type "tuple_iterator", data := .fields #[.ref t, .int 0 0] }
abbrev enumOf (it : Addr) : Obj := { cls := .type "enumerate", data := .fields #[.none, .bool false, .ref it, rawInt 0, .none, .none] }
theorem new_enum (t : Addr) (its : Array Value) (n : Nat) (dd : Option Addr) (sl : Array (Option Value)) :
    Meets (Builtin.«enumerate.__new__» ⟨[.type "enumerate", .ref t], []⟩) (fun _ R s => s.heap.get? t = some ⟨.type "tuple", dd, .seq its n, sl⟩ ∧ R (.ok (.ret (.ref (s.heap.push (tupIt t)).objs.size))) { s with heap := (s.heap.push (tupIt t)).push (enumOf s.heap.objs.size) }) :=
  .of_wp fun prog w A R s h => by
    obtain ⟨g0, g1, g2, g3, g4⟩ := s
    obtain ⟨ht, h⟩ := h
    have sube := sub_enumerate
    have tt : Heap.IsTuple (Shared.heap ⟨g0, g1, g2, g3, g4⟩) t its := ⟨_, ht, rfl, n, rfl⟩
    wp_walk using wpAny_loadPart' ht
    refine wpAny_stack_any fun st => wpAny_pure ?_
    split
    · rename_i c _ _ _ _ _
      cases (c == Value.type "enumerate")
      all_goals
        wp_walk using wpAny_loadPart' ht, wpAny_pyIter_tuple tt
        exact ⟨_, rfl, h⟩
    · wp_walk using wpAny_loadPart' ht, wpAny_pyIter_tuple tt
      exact ⟨_, rfl, h⟩
section
variable {prog : Program} {w : World} {A : Around} {E : Value → Shared → Prop} {s : Shared}
theorem call_enum {t : Addr} {its : Array Value} {Q : Value → Shared → Prop} (ht : s.heap.IsTuple t its)
    (go : ∀ h', IsEnum h' (s.heap.objs.size + 1) s.heap.objs.size 0 .none → h'.IsTupleIter s.heap.objs.size t 0 → (∀ b o, s.heap.get? b = some o → h'.get? b = some o) → Q (.ref (s.heap.objs.size + 1)) { s with heap := h' }) :
    wpAny (model prog w) A (call (.type "enumerate") [.ref t]) Q E s := by
  obtain ⟨⟨c, dd, dt, sl⟩, e1, e2, n, e3⟩ := ht
  replace e2 : c = .type "tuple" := e2
  replace e3 : dt = .seq its n := e3
  subst e2 e3
  refine callType_new F.called_enumerate (by decide) (F.typeCall_enumerate_1 _) (F.newCall_enumerate_1 _) (fun obj => F.args_object_init_2 obj _) F.entry_enumerate_new (new_enum t its n dd sl) ⟨e1, ?_⟩
  have sz : (s.heap.push (tupIt t)).objs.size = s.heap.objs.size + 1 := Heap.size_push ..
  show _ ∧ _
  rw [sz]
  have en : IsEnum ((s.heap.push (tupIt t)).push (enumOf s.heap.objs.size)) (s.heap.objs.size + 1) s.heap.objs.size 0 .none := by
    have z := Heap.get?_push_size (s.heap.push (tupIt t)) (o := enumOf s.heap.objs.size) rfl
    rw [sz] at z
    exact z
  exact ⟨⟨_, en, rfl⟩, go _ en ⟨_, Heap.get?_push_of_some _ (Heap.get?_push_size _ rfl), rfl, rfl⟩ fun b o z => Heap.get?_push_of_some _ (Heap.get?_push_of_some _ z)⟩
end
/-- the tuple at a, each item in a new pair -/
def IteT (K : PySem.W.Frag) (a : Addr) : It where
  go i H := ∃ (xs : List V) (x : V), SqT K H a xs ∧ xs[i]? = some x
  yld i H v H' := ∃ T x, v = .ref T ∧ H T = none ∧ H' = upd H T (.tup [.int (i : Nat), x]) ∧ ∀ xs, SqT K H a xs → xs[i]? = some x
  stop i H := ∃ xs : List V, SqT K H a xs ∧ xs.length ≤ i
theorem tup_ne {X : Cx} {pins : List (Addr × Obj)} {σ : L2.St} {H : Hp} {s : Shared} {t it : Addr} {i : Nat} {its : Array Value} (h : s.heap.IsTupleIter it t i) (g : s.heap.IsTuple t its) : t ≠ it := by
  rintro rfl
  obtain ⟨o, e, c, _⟩ := h
  obtain ⟨o', e', c', _⟩ := g
  rw [e] at e'
  cases e'
  rw [c] at c'
  exact absurd (Value.type.inj c') (by decide)
theorem turn_enumT {P : Program} {w : World} {K : PySem.W.Frag} {elts : List Expr} {kk : Nat} {tpos : Pos} (a e it : Addr) :
    Turn P w K (.Tuple elts kk tpos) (IteT K a) [e, it] e (fun i h => (∃ old, IsEnum h e it ((i : Nat) : Int) old) ∧ h.IsTupleIter it a i ∧ e ≠ it ∧ e ≠ a) where
  mem := by simp
  obj := fun i h st b hb => by
    obtain ⟨⟨old, he⟩, ⟨o, ho, hc, hd⟩, _⟩ := st
    rcases (show b = e ∨ b = it by simpa using hb) with z | z
    · rw [z]; exact ⟨_, he, fun v q => nomatch q⟩
    · rw [z]; exact ⟨o, ho, fun v q => by rw [hd] at q; cases q⟩
  keep := fun i h h' st k => by
    obtain ⟨⟨old, he⟩, hi, n1, n2⟩ := st
    exact ⟨⟨old, k e (by simp) _ he⟩, hi.at fun o q => k it (by simp) o q, n1, n2⟩
  item := by
    intro X hP hw hK hc i pins s σ H E I hf st hg
    subst hP hw hK
    obtain ⟨⟨old, he⟩, hi, n1, n2⟩ := st
    obtain ⟨xs, x, hq, hx⟩ := hg
    obtain ⟨its, rv, p, hz⟩ := I.tuple hq
    obtain ⟨u, hu, ru⟩ := rv.get hx
    have le : e < s.heap.objs.size := Heap.lt_size he
    have li : it < s.heap.objs.size := by obtain ⟨_, q, _⟩ := hi; exact Heap.lt_size q
    have ne : a ≠ it := tup_ne (X := X) (pins := pins) (σ := σ) (H := H) hi p
    have lt : i < its.toArray.size := by
      rw [List.size_toArray]
      exact (List.getElem?_eq_some_iff.mp hu).1
    refine wpAny_pyNext_enum_itemD (Draws.tuple (A := X.A.in1) (I.ok.hd hc) it a ne its.toArray) he ⟨hi, p⟩ lt n1 (by simp [n1, n2]) fun v h' tk hv out st' hT hsz hk => ?_
    have ev : v = u := by
      have z : its.toArray[i]? = some v := hv
      rw [List.getElem?_toArray, hu] at z
      cases z
      rfl
    subst ev
    refine ⟨_, rfl, wpAny_letOwnedTupleGo_enum (s := { s with heap := h', toks := tk + 1 }) out fun h'' he' sb => ?_⟩
    have hT2 : h''.get? s.heap.objs.size = some { cls := .type "tuple", data := .seq #[.int i tk, v] } := (sb.2 _ (Nat.ne_of_gt le)).trans hT
    have new : ObjOk X.prog X.w (upd H s.heap.objs.size (.tup [.int (i : Nat), x])) h'' s.heap.objs.size (.tup [.int (i : Nat), x]) :=
      ⟨(by show 2 ≤ sizeLine; decide), [.int i tk, v], .cons ⟨_, rfl⟩ (.cons ru .nil), ⟨_, hT2, rfl, _, rfl⟩⟩
    have I1 : Inv X pins σ (upd H s.heap.objs.size (.tup [.int (i : Nat), x])) { s with heap := h'', toks := tk + 1 } :=
      I.turnedNew (ch := [e, it]) (fun b ob hb q => (sb.2 b (fun z => hb (by simp [z]))).trans (hk b ob (fun z => hb (by simp [z])) (fun z => hb (by simp [z])) q)) hf (Nat.le_refl _) new
    refine ⟨.ref s.heap.objs.size, _, I1, rfl, ⟨_, x, rfl, I.hok.fresh (Nat.le_refl _), rfl, fun ys hy => by rw [I.tuple_inj hy hq]; exact hx⟩, ⟨⟨v, ?_⟩, st'.1.at fun o q => (sb.2 it (Ne.symm n1)).trans q, n1, n2⟩, fun b hb => ?_⟩
    · rw [show ((i + 1 : Nat) : Int) = (i : Int) + 1 by omega]
      exact he'
    · have lb : b < s.heap.objs.size := by
        rcases (show b = e ∨ b = it by simpa using hb) with z | z
        · rw [z]; exact le
        · rw [z]; exact li
      rw [upd_ne (Nat.ne_of_lt lb)]
      exact (hf b hb).1
  done := by
    intro X hP hw hK hc i pins s σ H E I hf st hg
    subst hP hw hK
    obtain ⟨⟨old, he⟩, hi, n1, n2⟩ := st
    obtain ⟨xs, hq, hx⟩ := hg
    obtain ⟨its, rv, p, hz⟩ := I.tuple hq
    obtain ⟨f0, f1, f2, f3, f4, f5⟩ := hf it (by simp)
    have out : its.toArray[i]? = none := by
      rw [List.getElem?_toArray]
      exact List.getElem?_eq_none (by rw [← rv.length]; exact hx)
    have ty : s.TypeIs (.ref e) "enumerate" := ⟨_, he, rfl⟩
    unfold pyNext
    refine wpAny_bind (wpAny_attempt (wpAny_callSpecial?_slot (name := Str.ofString "__next__") ty F.slot_enumerate_next (wpAny_call_entry F.slot_enumerate_next ty F.entry_enumerate_next ?_ (F.args_enumerate_next_1 _))))
    show wpAny _ _ (field (.ref e) 2 >>= fun z => _) _ _ _
    refine wpAny_bind (wpAny_field he rfl (x := .ref it) rfl ?_)
    refine wpAny_bind (wpAny_nextOf_tuple_end (I.ok.hd hc) hi p out fun h' x e1 z => ?_)
    obtain ⟨o, e2, e3⟩ := z
    refine wpAny_bind (wpAny_isInstance (T := "StopIteration") (b := true) ⟨o, e2, e3⟩ isSubtype_stop ?_)
    exact wpAny_pure ⟨rfl, I.turned (t' := s.toks) (fun b o hb q => e1 b o hb q) f0 f1 f3 f4 f5⟩
  self := fun A i s Q E st h => let ⟨⟨_, he⟩, _⟩ := st; wpAny_pyIter_enum he h
/-- enumerate(x) of a list or a tuple -/
def EnOf (K : PySem.W.Frag) (H : Hp) (a : Addr) (xs : List V) (J : It) : Prop := (SqL K H a xs ∧ J = Ite K a) ∨ (SqT K H a xs ∧ J = IteT K a)
def iEnumA (K : PySem.W.Frag) (ta : TA) : TI := fun σ H R => ta σ H fun vs H1 => ∃ a xs, vs = [.ref a] ∧ (SqL K H1 a xs ∨ SqT K H1 a xs) ∧ ∀ J, EnOf K H1 a xs J → R J H1
theorem pi_enumA {X : Cx} {x : Expr} {ta : TA} {p pos tpos : Pos} {elts : List Expr} {kk : Nat} (hg : Gl X "enumerate") (hm : X.mg "enumerate" = none) (ha : PA X [x] ta) (hs : starEach [x] X.env = [(false, eval x X.env)] := by rfl) : PI X (.Tuple elts kk tpos) (.Call (.Name "enumerate" p) [x] [] pos) (iEnumA X.K ta) := by
  refine ⟨fun pins s σ H R I h => ?_⟩
  have fok : ∀ {s1 : Shared} {H1 : Hp}, Inv X pins σ H1 s1 → ∀ b ∈ [s1.heap.objs.size + 1, s1.heap.objs.size], FpOk X pins H1 b := fun {s1 H1} I1 b hb => by
    have le : s1.heap.objs.size ≤ b := by
      rcases (show b = s1.heap.objs.size + 1 ∨ b = s1.heap.objs.size by simpa using hb) with z | z
      · rw [z]; exact Nat.le_add_right _ _
      · rw [z]; exact Nat.le_refl _
    exact I1.fpOk le (I1.hok.fresh le)
  refine Call_ (ld_blt I hg hm boot_enumerate (PyProof.Rows.callWith_type1 (thn (ha.run pos pins s σ H _ I h) fun us s1 ⟨vs, H1, I1, r1, q1⟩ => ?_) hs rfl))
  obtain ⟨a, xs, rfl, q1⟩ := q1
  obtain ⟨u, rfl, ru⟩ := r1.one
  cases ru
  obtain ⟨hq | hq, q⟩ := q1
  · have q := q _ (.inl ⟨hq, rfl⟩)
    obtain ⟨its, rv, pl, _⟩ := I1.list hq
    refine call_enumerate_list pl.isList fun h' he hit _ hk => wpAny_pyIter_enum he ?_
    exact ⟨s1.heap.objs.size + 1, [s1.heap.objs.size + 1, s1.heap.objs.size], _, _, H1, rfl, I1.kept (t' := s1.toks) hk, turn_enum a (s1.heap.objs.size + 1) s1.heap.objs.size, ⟨⟨.none, he⟩, hit, Nat.succ_ne_self _⟩, fok I1, q⟩
  · have q := q _ (.inr ⟨hq, rfl⟩)
    obtain ⟨its, rv, pl, _⟩ := I1.tuple hq
    have la : a < s1.heap.objs.size := by obtain ⟨o, e, _⟩ := id pl; exact Heap.lt_size e
    refine call_enum pl fun h' he hit hk => wpAny_pyIter_enum he ?_
    exact ⟨s1.heap.objs.size + 1, [s1.heap.objs.size + 1, s1.heap.objs.size], _, _, H1, rfl, I1.kept (t' := s1.toks) hk, turn_enumT a (s1.heap.objs.size + 1) s1.heap.objs.size, ⟨⟨.none, he⟩, hit, Nat.succ_ne_self _, Nat.ne_of_gt (Nat.lt_succ_of_lt la)⟩, fok I1, q⟩
theorem walk_enumT {K : PySem.W.Frag} {a : Addr} {xs : List V} : Walk (IteT K a) xs.length (fun H => SqT K H a xs) (YPair (fun i => some (.int (i : Nat))) (fun i => xs[i]?)) := by
  refine ⟨fun i H hi h => ⟨xs, xs[i], h, List.getElem?_eq_getElem hi⟩, fun H h => ⟨xs, h, Nat.le_refl _⟩, fun i H x H' hi h y => ?_⟩
  obtain ⟨T, z, e1, e2, e3, e4⟩ := y
  exact ⟨T, .int (i : Nat), z, e1, e2, e3, rfl, e4 xs h⟩
end AT

set_option maxHeartbeats 4000000
namespace AT
open PySem PySem.Spec PyProof.Rows L2
/-! ### lists and tuples alike -/
def rIxQ (K : PySem.W.Frag) : R2 := fun x y H Q => ∃ p xs i v, x = .ref p ∧ y = .int i ∧ (SqL K H p xs ∨ SqT K H p xs) ∧ atI xs i = some v ∧ Q v H
theorem ix_sq {X : Cx} : IxR X (rIxQ X.K) := by
  intro value slice pins s σ H x y v u Q I rx ry h hs
  obtain ⟨p, xs, i, z, e1, e2, hq | hq, he, q⟩ := h
  · exact ix_list value slice pins s σ H x y v u Q I rx ry ⟨p, xs, i, z, e1, e2, hq, he, q⟩ hs
  · exact ix_tup value slice pins s σ H x y v u Q I rx ry ⟨p, xs, i, z, e1, e2, hq, he, q⟩ hs
/-- enumerate(..) of either -/
theorem en_walk {K : PySem.W.Frag} {H : Hp} {a : Addr} {xs : List V} {J : It} (h : EnOf K H a xs J) : ∃ G : Hp → Prop, Walk J xs.length G (YPair (fun i => some (.int (i : Nat))) (fun i => xs[i]?)) ∧ ∀ H', H' a = H a → G H' := by
  rcases h with ⟨h, rfl⟩ | ⟨h, rfl⟩
  · refine ⟨_, walk_enum, fun H' e => ?_⟩
    rcases h with (h | ⟨o, h⟩) | h
    · exact .inl (.inl (e.trans h))
    · exact .inl (.inr ⟨o, e.trans h⟩)
    · exact .inr h
  · refine ⟨_, walk_enumT, fun H' e => ?_⟩
    rcases h with (h | ⟨o, h⟩) | h
    · exact .inl (.inl (e.trans h))
    · exact .inl (.inr ⟨o, e.trans h⟩)
    · exact .inr h
end AT

set_option maxHeartbeats 4000000
namespace AT
open PySem PySem.Spec PyProof.Rows L2
theorem Same.sql {K : PySem.W.Frag} {H H' : Hp} {a : Addr} {xs : List V} (e : Same H H') (h : SqL K H a xs) : SqL K H' a xs := by
  rcases h with (h | ⟨o, h⟩) | h
  · exact .inl (.inl (e _ _ h))
  · exact .inl (.inr ⟨o, e _ _ h⟩)
  · exact .inr h
def SqB (K : PySem.W.Frag) (H : Hp) (a : Addr) (xs : List V) : Bool → Prop
  | true => SqL K H a xs
  | false => SqT K H a xs
def mkS (xs : List V) : Bool → HO
  | true => .lst xs
  | false => .tup xs
theorem SqB.of {K : PySem.W.Frag} {H : Hp} {a : Addr} {xs : List V} {b : Bool} (h : H a = some (mkS xs b)) : SqB K H a xs b := by
  cases b with
  | true => exact SqL.of h
  | false => exact SqT.of h
theorem SqB.or {K : PySem.W.Frag} {H : Hp} {a : Addr} {xs : List V} {b : Bool} (h : SqB K H a xs b) : SqL K H a xs ∨ SqT K H a xs := by
  cases b with
  | true => exact .inl h
  | false => exact .inr h
/-- a slice of a list (a new list) or a tuple (a new tuple, if it is not all of it) -/
def rSlQ (K : PySem.W.Frag) : V → Option Int → Option Int → Hp → VK → Prop := fun x lo hi H Q => ∃ a xs b, x = .ref a ∧ SqB K H a xs b ∧ (b = false → ¬ (HT.sIx xs.length 0 lo = 0 ∧ HT.sIx xs.length xs.length hi = xs.length)) ∧ ∀ p, H p = none → Q (.ref p) (upd H p (mkS (cutV xs lo hi) b))
theorem sl_sq {X : Cx} : SlR X (rSlQ X.K) := by
  intro pins s σ H x v vl vu lo hi sl Q I rx hs pl pu h
  obtain ⟨a, xs, b, e, hq, hw, q⟩ := h
  cases b with
  | true => exact sl_list pins s σ H x v vl vu lo hi sl Q I rx hs pl pu ⟨a, xs, e, hq, q⟩
  | false => exact sl_tup pins s σ H x v vl vu lo hi sl Q I rx hs pl pu ⟨a, xs, e, hq, hw rfl, q⟩
theorem walk_zipT {K : PySem.W.Frag} {a b : Addr} {xs ys : List V} {n : Nat} (hn : n = min xs.length ys.length) : Walk (RZ.ItzT K a b) n (fun H => SqT K H a xs ∧ SqT K H b ys) (YPair (fun i => xs[i]?) (fun i => ys[i]?)) := by
  subst hn
  refine ⟨fun i H hi h => ⟨xs, ys, _, _, h.1, h.2, List.getElem?_eq_getElem (by omega), List.getElem?_eq_getElem (by omega)⟩, fun H h => ⟨xs, ys, h.1, h.2, by omega⟩, fun i H v H' hi h y => ?_⟩
  obtain ⟨T, x, z, e1, e2, e3, e4, e5⟩ := y
  exact ⟨T, x, z, e1, e2, e3, e4 xs h.1, e5 ys h.2⟩
end AT

set_option maxHeartbeats 4000000
namespace AT
open PySem PySem.Spec PyProof.Rows L2
/-! ### isinstance(e, c) where e has fields -/
section
variable {prog : Program} {w : World} {A : Around} {E : Value → Shared → Prop} {t : Shared} {K : PySem.W.Frag} {p D : Addr} {oo od : Obj}
theorem cls_of {R : Option Value → Shared → Prop} (C : ExcC K D) (KI : K.In t.heap) (J : PySem.W.InstAt t.heap p oo D (some od)) (go : R (some (.ref D)) { t with toks := t.toks + 1 }) : wpAny (model prog w) A (getAttr? (.ref p) "__class__") R E t := by
  have fo : PySem.W.findObj K D (some od) "__class__" = some (.bind (.builtin "getset_descriptor.__get__") (.builtin "object.__class__")) := PySem.W.findObj_data (by obtain ⟨cd, z, _⟩ := PySem.W.any_some C.hd; rw [z]; rfl) C.ha C.hn C.ht
  obtain ⟨g0, g1, g2, g3, g4⟩ := t
  have k0 := J.type (M := model prog w)
  have k1 := PySem.W.looks_findIn (M := model prog w) KI C.hg
  have k2 := PySem.W.looks_findIn (M := model prog w) KI C.hk
  have k3 := PySem.W.looks_find (M := model prog w) KI J fo
  have k4 : PySem.W.Looks (model prog w) g0 (isInstance (.ref p) (.type "BaseException")) true := k0.andThen (PySem.W.looks_subIn KI C.hs)
  have z0 : (false && onTheHeap (Value.builtin "BaseException.__getattribute__")) = false := rfl
  have z1 : (Value.builtin "BaseException.__getattribute__" == Value.builtin "object.__getattribute__") = false := by decide +kernel
  have z2 : (onTheHeap (Value.ref D) && Value.builtin "BaseException.__getattribute__" == Value.builtin "object.__getattribute__") = false := by rw [z1]; rfl
  unfold getAttr? getAttrBy? getAttrBy
  refine wpAny_bind (wpAny_mkText (wpAny_bind (wpAny_attempt (wpAny_holding (wpAny_bind (k0.at (wpAny_bind (k1.at ?_))))))))
  show wpAny _ _ (if (onTheHeap (Value.ref D) && Value.builtin "BaseException.__getattribute__" == Value.builtin "object.__getattribute__") = true then _ else _) _ _ ⟨_, _, _, _, _⟩
  rw [z2, if_neg Bool.false_ne_true]
  unfold getAttrByItsOwn hookBefore
  refine wpAny_bind ?_
  rw [if_pos (show onTheHeap (Value.ref D) = true from rfl)]
  refine k2.at (wpAny_bind (wpAny_attempt (wpAny_holding ?_)))
  unfold callGetattribute
  rw [z0, if_neg Bool.false_ne_true]
  unfold boundAndCalled
  rw [PySem.F.excAttr_ValueError.ga.bind (.ref p)]
  refine wpAny_bind (wpAny_pure ?_)
  show wpAny _ _ (call (.builtin "BaseException.__getattribute__") [.ref p, .str "__class__" g3]) _ _ _
  refine wpAny_call (codeAny_call_builtin PySem.F.excAttr_ValueError.ga.plain PySem.F.entry_bexc_ga ?_)
  refine @PySem.W.check_slot (model prog w) _ _ ⟨g0, g1, g2, g3 + 1, g4⟩ "BaseException.__getattribute__" "BaseException" "__getattribute__" (.ref p) [.str "__class__" g3] [] _ (by decide +kernel) (by decide +kernel) k4 (PySem.F.args_bexc_ga (.ref p) (.str "__class__" g3)) ?_
  unfold Builtin.«object.__getattribute__»
  refine wpAny_bind (wpAny_of_eq (a := ((Value.ref p : Value), [Value.str "__class__" g3])) (by first | rfl | (simp only [slotArgs]; rfl)) ?_)
  refine wpAny_bind (wpAny_pure (wpAny_bind (k0.at (wpAny_bind (k3.at ?_)))))
  show wpAny _ _ (holding [Value.builtin "object.__class__"] (call (.builtin "getset_descriptor.__get__") [.builtin "object.__class__", .ref p, .ref D]) >>= fun z => ret z) _ _ _
  refine wpAny_bind (wpAny_holding (wpAny_call (PySem.W.class_get (s := ⟨g0, g1, g2, g3 + 1, g4⟩) (ox := oo) (od := some od) KI J C.hm ?_)))
  refine wpAny_pure ?_
  show wpAny _ _ (handedOut (.ref D)) _ _ ⟨_, _, _, _, _⟩
  rw [PySem.W.handedOut_of (v := .ref D) rfl]
  exact wpAny_pure (wpAny_pure go)
theorem kitx_of (C : ExcC K D) : PySem.W.KitX K (.ref p) (.ref D) (fun h => PySem.W.InstAt h p oo D (some od)) where
  ty := fun _ _ _ J => J.type
  it := fun _ _ KI _ => by
    obtain ⟨cd, z, _⟩ := PySem.W.any_some C.hd
    unfold PySem.W.clsIn at z
    split at z
    · rename_i c1 d1 cd1 sl1 e1
      intro A1 Q1 E1 s1 k q
      unfold isType loadHead
      exact wpAny_bind (wpAny_loadPart (k _ _ (KI _ _ e1)) (wpAny_pure q))
    · cases z
  ne := fun h tp dd its n sl KI e2 => by
    obtain ⟨cd, z, _⟩ := PySem.W.any_some C.hd
    refine Bool.eq_false_iff.mpr fun q => ?_
    have e : D = tp := Value.ref.inj (beq_iff_eq.mp q)
    subst e
    unfold PySem.W.clsIn at z
    split at z
    · rename_i c1 d1 cd1 sl1 e1
      have y := (KI _ _ e1).symm.trans e2
      cases y
    · cases z
  ca := fun KI J k => cls_of C KI J k
end
/-- isinstance(e, c), e the exception that the suite holds, its fields at d -/
def rIsX (K : PySem.W.Frag) (D a d : Addr) : List V → Hp → VK → Prop := fun xs H Q => ∃ (c : V) (cv : Value) (b : Bool) (fs : List (Str × V)), xs = [.ref a, c] ∧ ClsV c cv ∧ PySem.W.kitOne K (.ref D) cv = some b ∧ H d = some (.xd fs) ∧ Q (.bl b) H
theorem call_isX {X : Cx} {a D d : Addr} {oe : Obj} {cls : Value} {dd : Option Addr} {pn : List (Addr × Obj)} (C : ExcC X.K D) (hz : Zc cls dd oe) (hf : ∃ vs, oe.data = .fields vs) : CallR (X.suite a ((a, oe) :: pn)) (.builtin "isinstance") (fun xs H Q => cls = .ref D ∧ ∃ d, dd = some d ∧ rIsX X.K D a d xs H Q) := by
  intro pins s σ H xs us Q I r h
  obtain ⟨rfl, d, rfl, c, cv, b, fs, rfl, hcv, e, hd, q⟩ := h
  obtain ⟨u1, u2, rfl, r1, r2⟩ : ∃ u1 u2, us = [u1, u2] ∧ RelV (.ref a) u1 ∧ RelV c u2 := by
    cases r with
    | cons rx rr =>
      cases rr with
      | cons rt rr =>
        cases rr
        exact ⟨_, _, rfl, rx, rt⟩
  cases r1
  have ec : u2 = cv := by
    cases hcv <;> (cases r2; rfl)
  subst ec
  obtain ⟨ha, _⟩ := I.pin (a, oe) (List.mem_append.mpr (.inl List.mem_cons_self))
  obtain ⟨vs, hv⟩ := hf
  obtain ⟨mA, hns, hr⟩ := (show ObjOk X.prog X.w H s.heap d (.xd fs) from I.hok d _ hd)
  obtain ⟨od, ho, hl⟩ := lookIn_ns hns
  have J : PySem.W.InstAt s.heap a oe D (some od) := ⟨ha, hz.1, by unfold PySem.W.notCls; rw [hv] <;> rfl, by rw [hz.2]; exact ho⟩
  exact PySem.W.kia_one (kitx_of C) I.kIn J e (fun z => nomatch z) fun tk => ⟨.bl b, H, I.kept (t' := tk) fun _ _ z => z, rfl, q⟩
def excsB (x : Str) (K : PySem.W.Frag) : Bool :=
  He.eqO (PySem.W.findIn K (.ref (He.ga K x)) "__getattribute__") (some (some (.builtin "BaseException.__getattribute__"))) && (He.eqO (PySem.W.findIn K (.ref (He.ga K x)) "__getattr__") (some none) && (decide (PySem.W.subIn K (.ref (He.ga K x)) (.type "BaseException") = some true) && (PySem.W.hasDictIn K (He.ga K x) &&
    (He.eqO (PySem.W.findIn K (.ref (He.ga K x)) "__class__") (some (some (.builtin "object.__class__"))) && (He.eqO (PySem.W.specialIn K (.builtin "object.__class__") "__get__") (some (some (.builtin "getset_descriptor.__get__"))) && (decide (PySem.W.takesIn K (.builtin "object.__class__") = some true) && decide (PySem.W.mroIn K (He.ga K x) (.type "object") = some true)))))))
theorem excs_ok {x : Str} {K : PySem.W.Frag} (h : excsB x K = true) : ExcC K (He.ga K x) := by
  unfold excsB at h
  simp only [Bool.and_eq_true] at h
  obtain ⟨h1, h2, h3, h4, h5, h6, h7, h8⟩ := h
  exact ⟨He.eqO_ok h1, He.eqO_ok h2, of_decide_eq_true h3, h4, He.eqO_ok h5, He.eqO_ok h6, of_decide_eq_true h7, of_decide_eq_true h8⟩
end AT

set_option maxHeartbeats 4000000
namespace AT
open PySem PySem.Spec PyProof.Rows L2
/-! ### C(..) in a try's body -/
section
variable {X : Cx} {k : Nat} {f C : Addr} {ps : List Str} {sp : Sp} {x : Str} {p pos : Pos} {e : Expr} {es : List Expr} {t : TA}
theorem make_at {fd : FuncData} {E : XK} {pins : List (Addr × Obj)} {σ : L2.St} {H : Hp} {s : Shared} {Q : VK} {us : List Value} {vs : List V} (M : Mk X.K C f) (F : FnOk X.prog X.w X.K X.mg X.base (L2.CX X.prog X.w) k f fd ps sp) (hr : Room (k + 1) X.A) (hb : Binds X.K fd ps [])
    (hx : PassesAt (L2.CX X.prog X.w) X σ E) (I : Inv X pins σ H s) (r : Vals vs us) (go : ∀ q d, H q = none → H d = none → d ≠ q → sp (.ref q :: vs) (upd (upd H d (.own q)) q (.ins C d [])) (fun v H2 => v = .non ∧ Q (.ref q) H2) E) : wpAny (model X.prog X.w) X.A (call (.ref C) us) (EP X pins σ Q) X.xe s := by
  have g := go (s.heap.objs.size + 1) s.heap.objs.size (I.hok.fresh (Nat.le_succ _)) (I.hok.fresh (Nat.le_refl _)) (Nat.ne_of_lt (Nat.lt_succ_self _))
  have J := Inv.made (C := C) I
  have rr : Vals (V.ref (s.heap.objs.size + 1) :: vs) (Value.ref (s.heap.objs.size + 1) :: us) := .cons rfl r
  have ln : (Value.ref (s.heap.objs.size + 1) :: us).length = ps.length := by
    have z := rr.length
    rw [F.len _ _ _ _ g] at z
    exact z.symm
  have bd := hb _ (Value.ref (s.heap.objs.size + 1) :: us) J.kIn (by simpa using ln)
  rw [List.append_nil] at bd
  refine wpAny_call (make_map (f := f) I.kIn M.makes M.init (beq_iff_eq.mp M.fn) (codeAny_mono (F.run _ X.stack _ _ ⟨Value.ref (s.heap.objs.size + 1) :: us, []⟩ _ _ _ E (hr.make C us []) (J.env0.make C us []) bd rr g) fun res s' hq => ?_))
  cases res with
  | error er => exact hx pins _ _ er s' J hq
  | ok fl =>
    cases fl with
    | ret u =>
      obtain ⟨v, H', J', rv, ev, q⟩ := J.after hq
      subst ev
      exact ⟨rv, ⟨V.ref (s.heap.objs.size + 1), H', J', rfl, q⟩⟩
    | _ => exact False.elim hq
def tMakeS (C : Addr) (sp : Sp) (E : L2.St → XK) (t : TA) : TE := fun σ H Q => t σ H fun vs H1 => ∀ q d, H1 q = none → H1 d = none → d ≠ q → sp (.ref q :: vs) (upd (upd H1 d (.own q)) q (.ins C d [])) (fun v H2 => v = .non ∧ Q (.ref q) H2) (E σ)
theorem ok_makeS {W : WX} (M : Mk X.K C f) (F : Ok X.prog X.w X.K X.mg X.base k f ps sp) (hr : Room (k + 1) X.A) (hg : Gl X x) (hm : X.mg x = some (.ref C)) (tk : Takes X W) (ha : PA X (e :: es) t)
    (hdb : (x == ("__debug__" : Str)) = false := by decide) (hst : starEach (e :: es) X.env = (false, eval e X.env) :: starEach es X.env := by rfl) (hns : (backTo pos (starEach es X.env)).any (·.1) = false := by rfl) :
    PE X (.Call (.Name x p) (e :: es) [] pos) (tMakeS C sp (fun σ cls d H => W cls d σ H) t) := by
  obtain ⟨fd, F1, b, kp⟩ := F
  constructor
  intro pins s σ H Q I h
  refine wpAny_Call_Name_kw (ld_glob I hg hm ?_ hdb)
  refine PySem.W.callWith_K (h₀ := X.base) I.ok.mod.kin M.kp (thn (ha.run pos pins s σ H _ I h) fun us s1 z => ?_) hst hns
  obtain ⟨vs, H1, I1, r, q⟩ := z
  exact ⟨I1.kIn, make_at M F1 hr b (passAt tk σ) I1 r q⟩
end
end AT

set_option maxHeartbeats 4000000
namespace AT
open PySem PySem.Spec PyProof.Rows L2
/-- lists of unlike lengths -/
def rNeL (K : PySem.W.Frag) : R2 := fun x y H Q => ∃ a b xs ys, x = .ref a ∧ y = .ref b ∧ SqL K H a xs ∧ SqL K H b ys ∧ xs.length ≠ ys.length ∧ Q (.bl true) H
theorem op_neL {X : Cx} (hu : X.A.units + 64 < cLine) : OpR X (compareOp .NotEq) (rNeL X.K) := by
  intro pins s σ H x y v u Q I rx ry h
  obtain ⟨a, b, xs, ys, rfl, rfl, ha, hb, hn, q⟩ := h
  cases rx
  cases ry
  obtain ⟨its, rv, pl, _⟩ := I.list ha
  obtain ⟨jts, rw, ql, _⟩ := I.list hb
  refine (SeqAt.RcNeAt.lists_lengths pl.isList ql.isList ?_ (by omega)) X.prog X.w X.xe _ ⟨.bl true, H, I, rfl, q⟩
  rw [List.size_toArray, List.size_toArray, ← rv.length, ← rw.length]
  simpa using hn
end AT

set_option maxHeartbeats 4000000
namespace AT
open PySem PySem.Spec PyProof.Rows L2
section
variable {X : Cx}
/-- a list that is not itself -/
def rNeLS (K : PySem.W.Frag) : R2 := fun x y H Q => ∃ a xs, x = .ref a ∧ y = .ref a ∧ SqL K H a xs ∧ Q (.bl false) H
theorem op_neLS (hu : X.A.units + 64 < cLine) : OpR X (compareOp .NotEq) (rNeLS X.K) := by
  intro pins s σ H x y v u Q I rx ry h
  obtain ⟨a, xs, rfl, rfl, ha, q⟩ := h
  cases rx
  cases ry
  obtain ⟨its, rv, pl, _⟩ := I.list ha
  refine (SeqAt.RcNeAt.lists (e := fun _ => true) pl.isList pl.isList rfl (by omega) (fun j _ _ => SeqAt.EqAt.same _)) X.prog X.w X.xe _ ?_
  exact ⟨.bl false, H, I, (by show _ = _; simp), q⟩
/-- b is not c, two truths -/
def rNtB : R2 := fun x y H Q => ∃ b c, x = .bl b ∧ y = .bl c ∧ Q (.bl (b != c)) H
theorem op_ntB : OpR X (compareOp .IsNot) rNtB := by
  intro pins s σ H x y v u Q I rx ry h
  obtain ⟨b, c, rfl, rfl, q⟩ := h
  cases rx
  cases ry
  exact isnot_bool ⟨.bl _, H, I, rfl, q⟩
end
end AT

set_option maxHeartbeats 4000000
namespace AT
open PySem PySem.Spec PyProof.Rows L2
section
open MeetsSeq MeetsSeq2 MeetsSeq3 SeqRoads2
open AutoSeq1 (wpAny_loadPart')
variable {prog : Program} {w : World} {A : Around}
/-- == of two tuples whose items are compared one by one, each comparison keeping J -/
theorem tupc_body {R : Result → Shared → Prop} {p q : Addr} {us vs : Array Value} {m1 m2 : Nat} {d1 d2 : Option Addr} {sl1 sl2 : Array (Option Value)} {e : Nat → Bool} {J : Shared → Prop} {t : Shared}
    (step : ∀ j (g1 : j < us.size) (g2 : j < vs.size) t, J t → wpAny (model prog w) A.in1 (eqBool us[j] vs[j]) (fun c t' => c = e j ∧ J t') (fun er t' => R (.error er) t') t)
    (done : ∀ t, J t → R (.ok (.ret (.bool ((List.range (min us.size vs.size)).all e && us.size == vs.size)))) t)
    (hp : t.heap.get? p = some { cls := .type "tuple", dict := d1, data := .seq us m1, slots := sl1 }) (hq : t.heap.get? q = some { cls := .type "tuple", dict := d2, data := .seq vs m2, slots := sl2 }) (h0 : J t) :
    wpAny (model prog w) A.in1 (Builtin.«tuple.__eq__» ⟨[.ref p, .ref q], []⟩) (GQ.FinOf prog w A R) (fun er t' => R (.error er) t') t := by
  have sb := AutoSeq1.sub_tuple_tuple
  have hZ : (us.toList.zip vs.toList).length = min us.size vs.size := by simp
  have keep := h0
  obtain ⟨x1, x2, x3, x4, x5⟩ := t
  wp_walk using wpAny_loadPart' hp, wpAny_loadPart' hq, wpAny_forIn_list _ (fun rest b t' => b.1 = none ∧ ∃ j, rest = (us.toList.zip vs.toList).drop j ∧ J t' ∧ (((List.range (min us.size vs.size)).take j).all e = true)) _
  case turn =>
    rintro ⟨y, x⟩ rest b t' ⟨hb, j, hz, hJ, hall⟩
    have hlt : j < (us.toList.zip vs.toList).length := by
      by_cases c : j < (us.toList.zip vs.toList).length
      · exact c
      · rw [List.drop_of_length_le (by omega)] at hz; cases hz
    have hm : j < min us.size vs.size := by omega
    have g1 : j < us.size := by omega
    have g2 : j < vs.size := by omega
    rw [List.drop_eq_getElem_cons hlt] at hz
    obtain ⟨e1, hrest⟩ := List.cons.inj hz
    have ey : y = us[j] := by simpa using congrArg Prod.fst e1
    have ex : x = vs[j] := by simpa using congrArg Prod.snd e1
    subst ey ex
    refine wpAny_bind (wpAny_mono (step j g1 g2 t' hJ) (fun c t2 z => ?_) fun _ _ z => z)
    obtain ⟨rfl, hJ2⟩ := z
    have hd : (List.range (min us.size vs.size)) = (List.range (min us.size vs.size)).take j ++ j :: (List.range (min us.size vs.size)).drop (j + 1) := by
      have h1 := (List.take_append_drop j (List.range (min us.size vs.size))).symm
      rw [List.drop_eq_getElem_cons (by simpa using hm)] at h1
      simpa using h1
    cases hc : e j with
    | true =>
      wp_walk
      refine ⟨rfl, j + 1, hrest, hJ2, ?_⟩
      rw [List.take_succ, List.all_append, hall, Bool.true_and]
      simp [hm, hc]
    | false =>
      have fin := done _ hJ2
      rw [hd, List.all_append, List.all_cons, hc] at fin
      wp_walk
      first | exact ⟨_, rfl, by simpa using fin⟩ | simpa using fin
  case fin =>
    rintro ⟨b1, b2⟩ t' ⟨hb, j, hz, hJ, hall⟩
    simp only at hb
    subst hb
    have hge : min us.size vs.size ≤ j := by
      by_cases c : j < (us.toList.zip vs.toList).length
      · rw [List.drop_eq_getElem_cons c] at hz; cases hz
      · omega
    have fin := done _ hJ
    rw [List.take_of_length_le (by simpa using hge)] at hall
    rw [hall, Bool.true_and] at fin
    wp_walk
    first | exact ⟨_, rfl, by simpa [Builtin.Tuple.tupleCompareSizes] using fin⟩ | simpa [Builtin.Tuple.tupleCompareSizes] using fin
  case h => exact ⟨rfl, 0, rfl, keep, by simp⟩
theorem tupc {E : Value → Shared → Prop} {Q : Value → Shared → Prop} {p q : Addr} {us vs : Array Value} {e : Nat → Bool} {J : Shared → Prop} {t : Shared} (hu : A.units < cLine) (hp : t.heap.IsTuple p us) (hq : t.heap.IsTuple q vs)
    (step : ∀ j (g1 : j < us.size) (g2 : j < vs.size) t, J t → wpAny (model prog w) A.in1 (eqBool us[j] vs[j]) (fun c t' => c = e j ∧ J t') E t)
    (done : ∀ t, J t → Q (.bool ((List.range (min us.size vs.size)).all e && us.size == vs.size)) t) (h0 : J t) : wpAny (model prog w) A (richCompare .Eq (.ref p) (.ref q)) Q E t := by
  obtain ⟨⟨c1, d1, t1, sl1⟩, g1, k1, m1, z1⟩ := id hp
  obtain ⟨⟨c2, d2, t2, sl2⟩, g2, k2, m2, z2⟩ := id hq
  simp only at k1 z1 k2 z2
  subst k1 z1 k2 z2
  refine wpAny_richCompare_same_room (op := .Eq) ⟨_, g1, rfl⟩ ⟨_, g2, rfl⟩ F.slot_tuple_eq (GQ.call_here F.slot_tuple_eq ⟨_, g1, rfl⟩ F.entry_tuple_eq (F.args_tuple_eq_2 _ _) ?_) hu
  exact tupc_body (R := wants (fun v t' => v ≠ .notImplemented ∧ Q v t') E) step (fun t' z => ⟨(fun x => nomatch x), done t' z⟩) g1 g2 h0
end
/-! ### == of nested tuples with instances of own classes, both answers; the abstract heap stays -/
abbrev Cmp := V → V → Hp → Bool → Prop
def EqB (X : Cx) (n : Nat) (D : Cmp) : Prop := ∀ (A : Around) (pins : List (Addr × Obj)) (s : Shared) (σ : L2.St) (H : Hp) (x y : V) (u v : Value) (b : Bool), Sub X n A → Inv X pins σ H s → RelV x u → RelV y v → D x y H b →
  wpAny (model X.prog X.w) A (eqBool u v) (fun r s' => r = b ∧ Inv X pins σ H s') X.xe s
def RcB (X : Cx) (n : Nat) (D : Cmp) : Prop := ∀ (A : Around) (pins : List (Addr × Obj)) (s : Shared) (σ : L2.St) (H : Hp) (x y : V) (u v : Value) (b : Bool), Sub X n A → Inv X pins σ H s → RelV x u → RelV y v → D x y H b →
  wpAny (model X.prog X.w) A (richCompare .Eq u v) (fun r s' => r = .bool b ∧ Inv X pins σ H s') X.xe s
section
variable {X : Cx} {n : Nat} {D : Cmp}
/-- the items, pair by pair -/
def Each (D : Cmp) (xs ys : List V) (H : Hp) (e : Nat → Bool) : Prop := ∀ (i : Nat) x y, xs[i]? = some x → ys[i]? = some y → D x y H (e i)
def CTup (K : PySem.W.Frag) (D : Cmp) : Cmp := fun x y H b => ∃ p q xs ys e, x = .ref p ∧ y = .ref q ∧ SqT K H p xs ∧ SqT K H q ys ∧ Each D xs ys H e ∧ b = ((List.range (min xs.length ys.length)).all e && xs.length == ys.length)
theorem rcB_tup (h : EqB X n D) : RcB X (n + 1) (CTup X.K D) := by
  intro A pins s σ H x y u v b sb I rx ry d
  obtain ⟨p, q, xs, ys, e, rfl, rfl, hp, hq, he, rfl⟩ := d
  cases rx
  cases ry
  obtain ⟨us, r1, t1, _⟩ := I.tuple hp
  obtain ⟨vs, r2, t2, _⟩ := I.tuple hq
  refine tupc (e := e) (J := fun t => Inv X pins σ H t) sb.room.units0 t1 t2 (fun j g1 g2 t It => ?_) (fun t It => ⟨?_, It⟩) I
  · rw [List.size_toArray] at g1 g2
    have k1 : j < xs.length := by rw [r1.length]; exact g1
    have k2 : j < ys.length := by rw [r2.length]; exact g2
    obtain ⟨u1, a1, b1⟩ := r1.get (List.getElem?_eq_getElem k1)
    obtain ⟨u2, a2, b2⟩ := r2.get (List.getElem?_eq_getElem k2)
    rw [List.getElem?_eq_getElem g1] at a1
    rw [List.getElem?_eq_getElem g2] at a2
    cases a1
    cases a2
    exact h A.in1 pins t σ H _ _ _ _ _ sb.in1 It b1 b2 (he j _ _ (List.getElem?_eq_getElem k1) (List.getElem?_eq_getElem k2))
  · rw [List.size_toArray, List.size_toArray, ← r1.length, ← r2.length]
/-- within a tuple the very same object is equal to itself -/
theorem RcB.eqB (h : RcB X n D) (hr : ∀ x y H b, D x y H b → ∃ p q, x = .ref p ∧ y = .ref q ∧ (p = q → b = true)) : EqB X n D := by
  intro A pins s σ H x y u v b sb I rx ry d
  obtain ⟨p, q, rfl, rfl, hb⟩ := hr _ _ _ _ d
  cases rx
  cases ry
  by_cases c : p = q
  · subst c
    rw [hb rfl]
    exact SeqAt.EqAt.same (A := A) (s := s) (.ref p) X.prog X.w X.xe _ ⟨rfl, I⟩
  · refine GQ.eqBool_refG c (wpAny_mono (h A pins s σ H (.ref p) (.ref q) _ _ b sb I rfl rfl d) (fun r s' z => ?_) fun _ _ z => z)
    exact ⟨b, z.1, rfl, z.2⟩
/-- instances of the class C, by its own __eq__ -/
def CIns (C : Addr) (R : Addr → Addr → Hp → Bool → Prop) : Cmp := fun x y H b => ∃ p q d1 d2 f1 f2, x = .ref p ∧ y = .ref q ∧ H p = some (.ins C d1 f1) ∧ H q = some (.ins C d2 f2) ∧ R p q H b
theorem rcB_ins {k : Nat} {C f : Addr} {ps : List Str} {sp : Sp} {E : XK} {R : Addr → Addr → Hp → Bool → Prop} (O : EqC X.K C f) (F : Ok X.prog X.w X.K X.mg X.base k f ps sp) (hx : Passes (L2.CX X.prog X.w) X E)
    (hsp : ∀ p q H b, R p q H b → sp [.ref p, .ref q] H (fun v H' => v = .bl b ∧ H' = H) E) : RcB X k (CIns C R) := by
  intro A pins s σ H x y u v b sb I rx ry d
  obtain ⟨p, q, d1, d2, f1, f2, rfl, rfl, hp, hq, hR⟩ := d
  obtain ⟨fd, F1, bd, kp⟩ := F
  cases rx
  cases ry
  obtain ⟨mA, J1, _⟩ := ins_get I.hok hp
  obtain ⟨mB, J2, _⟩ := ins_get I.hok hq
  obtain ⟨o1, J1, _⟩ := J1.look
  obtain ⟨o2, J2, _⟩ := J2.look
  obtain ⟨m, hF⟩ := I.fr
  refine PySem.W.cmp_K (op := .Eq) (tb := .ref C) sb.room.units0 hF I.ok.mod.kin J1 J2.type (by simp [PySem.W.notFirst]) O.find O.fn ?_
  refine wpAny_mono (run_in (us := [.ref p, .ref q]) (vs := [.ref p, .ref q]) sb.fr F1 sb.room bd hx I (.cons rfl (.cons rfl .nil)) (hsp p q H b hR)) (fun r s' z => ?_) fun _ _ z => z
  obtain ⟨x1, H1, I1, r1, rfl, rfl⟩ := z
  cases r1
  exact ⟨rfl, I1⟩
theorem eqB_ins {k : Nat} {C f : Addr} {ps : List Str} {sp : Sp} {E : XK} {R : Addr → Addr → Hp → Bool → Prop} (O : EqC X.K C f) (F : Ok X.prog X.w X.K X.mg X.base k f ps sp) (hx : Passes (L2.CX X.prog X.w) X E)
    (hsp : ∀ p q H b, R p q H b → sp [.ref p, .ref q] H (fun v H' => v = .bl b ∧ H' = H) E) (hs : ∀ p H b, R p p H b → b = true) : EqB X k (CIns C R) :=
  (rcB_ins O F hx hsp).eqB fun x y H b d => by
    obtain ⟨p, q, _, _, _, _, hx, hy, _, _, hR⟩ := d
    exact ⟨p, q, hx, hy, fun z => by subst z; exact hs p H b hR⟩
/-- x == y -/
def rEqB (D : Cmp) : R2 := fun x y H Q => ∃ b, D x y H b ∧ Q (.bl b) H
theorem op_eqB (h : RcB X n D) (hr : Room n X.A) : OpR X (compareOp .Eq) (rEqB D) := by
  intro pins s σ H x y v u Q I rx ry hq
  obtain ⟨b, d, q⟩ := hq
  show wpAny (model X.prog X.w) X.A (richCompare .Eq v u) (EP X pins σ Q) X.xe s
  refine wpAny_mono (h X.A pins s σ H x y v u b ⟨hr, rfl⟩ I rx ry d) (fun r s' z => ?_) fun _ _ z => z
  obtain ⟨rfl, I'⟩ := z
  exact ⟨.bl b, H, I', rfl, q⟩
end
end AT

set_option maxHeartbeats 4000000
namespace AT
open PySem PySem.Spec PyProof.Rows L2
/-! ### instances called, classes made with all defaults -/
def coB (x : Str) (K : PySem.W.Frag) : Bool := He.eqO (PySem.W.findIn K (.ref (He.ga K x)) "__call__") (some (some (.ref (He.ma K (He.ga K x) "__call__")))) && (PySem.W.isFn K (.ref (He.ma K (He.ga K x) "__call__")) && PySem.W.fnIn K (He.ma K (He.ga K x) "__call__"))
theorem co_ok {x : Str} {K : PySem.W.Frag} (h : coB x K = true) : StX.CallO K (He.ga K x) (He.ma K (He.ga K x) "__call__") := by
  unfold coB at h
  simp only [Bool.and_eq_true] at h
  exact ⟨He.eqO_ok h.1, h.2.1, h.2.2⟩
section
variable {X : Cx} {k : Nat} {f C g : Addr} {ps : List Str} {sp : Sp} {dvs : List V} {E : XK} {x : Str} {p pos : Pos} {e fe : Expr} {es : List Expr} {tf : TE} {t : TA}
theorem ok_callO (c : StX.CallO X.K C g) (F : Ok X.prog X.w X.K X.mg X.base k g ps sp) (hr : Room k X.A) (hx : Passes (L2.CX X.prog X.w) X E) (hf : PE X fe tf) (ha : PA X (e :: es) t)
    (ht : eval (.Call fe (e :: es) [] pos) X.env = (do callWith pos (← eval fe X.env) [] (backTo pos (starEach (e :: es) X.env)) (backToKw pos (keywordEach [] X.env))) := by rfl)
    (he : starEach (e :: es) X.env = (false, eval e X.env) :: starEach es X.env := by rfl) (hpl : (backTo pos (starEach es X.env)).any (·.1) = false := by rfl) : PE X (.Call fe (e :: es) [] pos) (StX.tCallO X C sp E tf t) := by
  obtain ⟨fd, F1, b, kp⟩ := F
  exact StX.pe_callO hf c ((FnOk.raw F1 b .nil).imp fun vs H Q E h => by rw [List.append_nil]; exact h) hr hx ha ht he hpl
theorem ok_makeD0 (M : Mk X.K C f) (F : OkD X.prog X.w X.K X.mg X.base k f ps dvs sp) (hr : Room (k + 1) X.A) (hg : Gl X x) (hm : X.mg x = some (.ref C)) (hx : Passes (L2.CX X.prog X.w) X E)
    (hdb : (x == ("__debug__" : Str)) = false := by decide) : PE X (.Call (.Name x p) [] [] pos) (tMake C sp dvs E tNil) := by
  obtain ⟨fd, ds, F1, vd, b, kp⟩ := F
  exact pe_make0 M F1 hr hg hm b vd hx hdb
end
/-! ### tuples within tuples -/
section
variable {X : Cx} {n : Nat} {D : Cmp}
def Refl (D : Cmp) : Prop := ∀ x H b, D x x H b → b = true
/-- tuples that stand in the heap -/
def CTuH (D : Cmp) : Cmp := fun x y H b => ∃ p q xs ys e, x = .ref p ∧ y = .ref q ∧ H p = some (.tup xs) ∧ H q = some (.tup ys) ∧ Each D xs ys H e ∧ b = ((List.range (min xs.length ys.length)).all e && xs.length == ys.length)
theorem CTuH.refl (h : Refl D) : Refl (CTuH D) := by
  rintro x H b ⟨p, q, xs, ys, e, rfl, e1, h1, h2, he, rfl⟩
  cases e1
  rw [h1] at h2
  cases h2
  simp only [Nat.min_self, beq_self_eq_true, Bool.and_true, List.all_eq_true, List.mem_range]
  intro i hi
  exact h _ _ _ (he i _ _ (List.getElem?_eq_getElem hi) (List.getElem?_eq_getElem hi))
theorem rcB_tuH (h : EqB X n D) : RcB X (n + 1) (CTuH D) := fun A pins s σ H x y u v b sb I rx ry d => by
  obtain ⟨p, q, xs, ys, e, h1, h2, h3, h4, h5, h6⟩ := d
  exact rcB_tup h A pins s σ H x y u v b sb I rx ry ⟨p, q, xs, ys, e, h1, h2, SqT.of h3, SqT.of h4, h5, h6⟩
theorem eqB_tuH (h : EqB X n D) (hs : Refl D) : EqB X (n + 1) (CTuH D) := (rcB_tuH h).eqB fun x y H b d => by
  obtain ⟨p, q, xs, ys, e, h1, h2, h3⟩ := id d
  refine ⟨p, q, h1, h2, fun z => ?_⟩
  subst z
  rw [h1, h2] at d
  exact CTuH.refl hs _ _ _ d
end
end AT

set_option maxHeartbeats 4000000
namespace AT
open PySem PySem.Spec PyProof.Rows L2
section
variable {X : Cx}
/-- a list compared with an empty one -/
def Emp (K : PySem.W.Frag) (x y : V) (H : Hp) (xs : List V) : Prop := ∃ a b, x = .ref a ∧ y = .ref b ∧ SqL K H a xs ∧ SqL K H b []
def rEqE (K : PySem.W.Frag) : R2 := fun x y H Q => ∃ xs, Emp K x y H xs ∧ Q (.bl xs.isEmpty) H
def rNeE (K : PySem.W.Frag) : R2 := fun x y H Q => ∃ xs, Emp K x y H xs ∧ Q (.bl (!xs.isEmpty)) H
theorem op_eqE (hu : X.A.units + 64 < cLine) : OpR X (compareOp .Eq) (rEqE X.K) := by
  intro pins s σ H x y v u Q I rx ry h
  obtain ⟨xs, ⟨a, b, rfl, rfl, ha, hb⟩, q⟩ := h
  cases rx
  cases ry
  obtain ⟨its, rv, pl, _⟩ := I.list ha
  obtain ⟨jts, rw, ql, _⟩ := I.list hb
  cases rw
  cases xs with
  | nil =>
    cases rv
    refine (SeqAt.RcAt.lists (e := fun _ => true) pl.isList ql.isList rfl (by omega) (fun j h _ => absurd h (by simp))) X.prog X.w X.xe _ ⟨.bl true, H, I, (by show _ = _; simp), q⟩
  | cons z zs =>
    cases rv with
    | cons r1 r2 => refine (SeqAt.RcAt.lists_lengths pl.isList ql.isList (by simp) (by omega)) X.prog X.w X.xe _ ⟨.bl false, H, I, rfl, q⟩
theorem op_neE (hu : X.A.units + 64 < cLine) : OpR X (compareOp .NotEq) (rNeE X.K) := by
  intro pins s σ H x y v u Q I rx ry h
  obtain ⟨xs, ⟨a, b, rfl, rfl, ha, hb⟩, q⟩ := h
  cases rx
  cases ry
  obtain ⟨its, rv, pl, _⟩ := I.list ha
  obtain ⟨jts, rw, ql, _⟩ := I.list hb
  cases rw
  cases xs with
  | nil =>
    cases rv
    refine (SeqAt.RcNeAt.lists (e := fun _ => true) pl.isList ql.isList rfl (by omega) (fun j h _ => absurd h (by simp))) X.prog X.w X.xe _ ⟨.bl false, H, I, (by show _ = _; simp), q⟩
  | cons z zs =>
    cases rv with
    | cons r1 r2 => refine (SeqAt.RcNeAt.lists_lengths pl.isList ql.isList (by simp) (by omega)) X.prog X.w X.xe _ ⟨.bl true, H, I, rfl, q⟩
end
end AT

set_option maxHeartbeats 4000000
namespace AT
open PySem L2
theorem cut_to (xs : List V) (k : Nat) : cutV xs none (some (k : Int)) = xs.take k := by
  unfold cutV
  rw [HT.sIx_nat, HT.sIx_none, List.drop_zero, Nat.sub_zero]
  by_cases h : k ≤ xs.length
  · rw [Nat.min_eq_left h]
  · rw [Nat.min_eq_right (by omega), List.take_length, List.take_of_length_le (by omega)]
theorem cut_from (xs : List V) (k : Nat) : cutV xs (some (k : Int)) none = xs.drop k := by
  unfold cutV
  rw [HT.sIx_nat, HT.sIx_none]
  by_cases h : k ≤ xs.length
  · rw [Nat.min_eq_left h]
    exact List.take_of_length_le (by simp)
  · rw [Nat.min_eq_right (by omega), List.drop_of_length_le (by omega), List.drop_of_length_le (by omega)]
    simp
theorem cut_last (xs : List V) : cutV xs (some (-1)) none = xs.drop (xs.length - 1) := by
  unfold cutV
  have e : HT.sIx xs.length 0 (some (-1)) = xs.length - 1 := by
    show (if (-1 : Int) < 0 then ((-1 : Int) + (xs.length : Int)).toNat else min (-1 : Int).toNat xs.length) = _
    rw [if_pos (by decide)]
    omega
  rw [e, HT.sIx_none]
  exact List.take_of_length_le (by simp)
end AT

set_option maxHeartbeats 4000000
namespace AT
open PySem PySem.Spec PyProof.Rows L2
/-- tuple(x), its question by the written part K -/
def rTupOf (K : PySem.W.Frag) : List V → Hp → VK → Prop := fun xs H Q => ∃ p ys, xs = [.ref p] ∧ ((SqL K H p ys ∧ ∀ l, H l = none → Q (.ref l) (upd H l (.tup ys))) ∨ (SqT K H p ys ∧ Q (.ref p) H))
theorem call_tupK {X : Cx} : CallR X (.type "tuple") (rTupOf X.K) := call_tuple_of
end AT

set_option maxHeartbeats 4000000
namespace AT
open PySem PySem.Spec PyProof.Rows L2
section
open MeetsSeq MeetsSeq2 MeetsSeq3 SeqRoads2
open AutoSeq1 (wpAny_loadPart')
variable {prog : Program} {w : World} {A : Around}
/-- x in a list, item by item, each comparison keeping J -/
theorem inc_loop {R : Result → Shared → Prop} {l : Addr} {us : Array Value} {x : Value} {e : Nat → Bool} {J : Shared → Prop}
    (read : ∀ t, J t → ∃ m, t.heap.get? l = some { cls := .type "list", data := .seq us m })
    (step : ∀ j (g : j < us.size) t, J t → wpAny (model prog w) A.in1 (eqBool us[j] x) (fun c t' => c = e j ∧ J t') (fun er t' => R (.error er) t') t)
    (done : ∀ t, J t → R (.ok (.ret (.bool ((List.range us.size).any e)))) t) : ∀ (d j : Nat), us.size - j = d → j ≤ us.size → (∀ i, i < j → e i = false) → ∀ t, J t →
      wpAny (model prog w) A.in1 (Builtin.«list.__contains__.loop» ⟨[.ref l, x, rawInt j], []⟩) (GQ.FinOf prog w A R) (fun er t' => R (.error er) t') t
  | 0, j, hd, hj, hlow, t, hJ => by
    obtain ⟨m, hl⟩ := read t hJ
    have fin := done t hJ
    have ej : j = us.size := by omega
    have none_ : (List.range us.size).any e = false := by
      rw [List.any_eq_false]
      intro i hi
      rw [hlow i (by rw [ej]; exact List.mem_range.mp hi)]
      decide
    rw [none_] at fin
    obtain ⟨x1, x2, x3, x4, x5⟩ := t
    wp_walk using wpAny_loadPart' hl
    have hi : us[((j : Nat) : Int).toNat]? = none := by simp; omega
    rw [hi]
    wp_walk
    exact fin
  | d + 1, j, hd, hj, hlow, t, hJ => by
    obtain ⟨m, hl⟩ := read t hJ
    have hlt : j < us.size := by omega
    have st := step j hlt t hJ
    obtain ⟨x1, x2, x3, x4, x5⟩ := t
    wp_walk using wpAny_loadPart' hl
    have hi : us[((j : Nat) : Int).toNat]? = some us[j] := by simp [hlt]
    have hc : ((j : Int) + 1) = ((j + 1 : Nat) : Int) := by omega
    rw [hi]
    refine wpAny_bind (wpAny_mono st (fun c t2 z => ?_) fun _ _ z => z)
    obtain ⟨rfl, hJ2⟩ := z
    cases ec : e j with
    | true =>
      have fin := done t2 hJ2
      have yes : (List.range us.size).any e = true := by
        rw [List.any_eq_true]
        exact ⟨j, List.mem_range.mpr hlt, ec⟩
      rw [yes] at fin
      obtain ⟨y1, y2, y3, y4, y5⟩ := t2
      wp_walk
      exact fin
    | false =>
      have rest := inc_loop read step done d (j + 1) (by omega) hlt (fun i hi => by
        by_cases c : i = j
        · rw [c]; exact ec
        · exact hlow i (by omega)) t2 hJ2
      obtain ⟨y1, y2, y3, y4, y5⟩ := t2
      wp_walk
      rw [hc]
      exact ⟨plainId_quiet plain_contains_loop _, codeAny_builtin entry_contains_loop (by
        rw [Around.under_plainId plain_contains_loop _]
        exact rest)⟩
theorem inc_call {Q : Value → Shared → Prop} {E : Value → Shared → Prop} {l : Addr} {us : Array Value} {x : Value} {e : Nat → Bool} {J : Shared → Prop} {t : Shared}
    (read : ∀ t, J t → ∃ m, t.heap.get? l = some { cls := .type "list", data := .seq us m })
    (step : ∀ j (g : j < us.size) t, J t → wpAny (model prog w) A.in1 (eqBool us[j] x) (fun c t' => c = e j ∧ J t') E t)
    (done : ∀ t, J t → Q (.bool ((List.range us.size).any e)) t) (h : J t) : wpAny (model prog w) A (call (.builtin "list.__contains__") [.ref l, x]) Q E t := by
  obtain ⟨m, hl⟩ := read t h
  refine GQ.call_here F.slot_list_contains ⟨_, hl, rfl⟩ F.entry_list_contains (F.args_list_contains_2 _ _) ?_
  have go := inc_loop (A := A) (R := wants Q E) (us := us) (e := e) (J := J) (x := x) (l := l) read step (fun t' z => done t' z) _ 0 rfl (Nat.zero_le _) (fun i hi => absurd hi (Nat.not_lt_zero _)) t h
  obtain ⟨x1, x2, x3, x4, x5⟩ := t
  wp_walk using wpAny_loadPart' hl
  exact ⟨plainId_quiet plain_contains_loop _, codeAny_builtin entry_contains_loop (by
    rw [Around.under_plainId plain_contains_loop _]
    exact go)⟩
end
section
variable {X : Cx} {n : Nat} {D : Cmp}
theorem refs_vals : ∀ {xs : List V} {us vs : List Value}, (∀ z ∈ xs, ∃ a, z = .ref a) → Vals xs us → Vals xs vs → us = vs
  | [], _, _, _, .nil, .nil => rfl
  | x :: xs, _, _, h, .cons r1 r2, .cons q1 q2 => by
    obtain ⟨a, rfl⟩ := h x (by simp)
    cases r1
    cases q1
    rw [refs_vals (fun z hz => h z (List.mem_cons_of_mem _ hz)) r2 q2]
/-- x not in xs, a list of objects with own == -/
def rNiB (D : Cmp) : R2 := fun x y H Q => ∃ l xs e, y = .ref l ∧ H l = some (.lst xs) ∧ (∀ z ∈ xs, ∃ a, z = .ref a) ∧ (∀ (i : Nat) z, xs[i]? = some z → D z x H (e i)) ∧ Q (.bl (!(List.range xs.length).any e)) H
theorem op_niB (h : EqB X n D) (hr : Room (n + 1) X.A) : OpR X (compareOp .NotIn) (rNiB D) := by
  intro pins s σ H x y v u Q I rx ry hq
  obtain ⟨l, xs, e, rfl, hl, hrf, hd, q⟩ := hq
  cases ry
  obtain ⟨hz, its, m, rv, ho⟩ := I.hok l _ hl
  show wpAny _ X.A (do return Value.bool (!(← contains (.ref l) v))) _ _ s
  refine wpAny_bind (wpAny_contains_slot ⟨_, ho, rfl⟩ F.slot_list_contains (wpAny_mono (inc_call (A := X.A) (us := its.toArray) (e := e) (J := fun t => Inv X pins σ H t) (Q := fun w t => ∃ b, w = Value.bool b ∧ Inv X pins σ H t ∧ b = (List.range xs.length).any e) (fun t It => ?_) (fun j g t It => ?_) (fun t It => ?_) I) (fun w t z => ?_) fun _ _ z => z))
  · obtain ⟨hz2, its2, m2, rv2, ho2⟩ := It.hok l _ hl
    rw [refs_vals hrf rv rv2]
    exact ⟨m2, ho2⟩
  · rw [List.size_toArray] at g
    have k1 : j < xs.length := by rw [rv.length]; exact g
    obtain ⟨u1, a1, r1⟩ := rv.get (List.getElem?_eq_getElem k1)
    rw [List.getElem?_eq_getElem g] at a1
    cases a1
    exact h X.A.in1 pins t σ H _ _ _ _ _ ⟨hr.in1, rfl⟩ It r1 rx (hd j _ (List.getElem?_eq_getElem k1))
  · exact ⟨_, rfl, It, by rw [List.size_toArray, ← rv.length]⟩
  · obtain ⟨b, rfl, It, rfl⟩ := z
    exact wpAny_truthy_bool (wpAny_pure ⟨.bl _, H, It, rfl, q⟩)
end
end AT

set_option maxHeartbeats 4000000
namespace AT
open PySem PySem.Spec PyProof.Rows L2
/-! ### methods and instances called in a try's body -/
section
variable {X : Cx} {k : Nat} {f C g : Addr} {ps : List Str} {sp : Sp} {x m : Str} {p pos apos : Pos} {e o fe : Expr} {es : List Expr} {ta tf : TE} {t : TA}
def tMethS (C : Addr) (m : Str) (sp : Sp) (E : L2.St → XK) (ta : TE) (t : TA) : TE := fun σ H Q => ta σ H fun x H1 => ∃ a dx fs, x = .ref a ∧ H1 a = some (.ins C dx fs) ∧ fs.lookup m = none ∧
  t σ H1 fun vs H2 => sp (x :: vs) H2 Q (E σ)
theorem ok_methS {W : WX} {pl : Sem Bool} (c : Cls X.K C) (hm : Meth X.K C m f) (F : Ok X.prog X.w X.K X.mg X.base k f ps sp) (hr : Room k X.A) (tk : Takes X W) (he : PE X o ta) (ha : PA X (e :: es) t)
    (hst : starEach (e :: es) X.env = (false, eval e X.env) :: starEach es X.env := by rfl) (hpl : (backTo pos (starEach es X.env)).any (·.1) = false := by rfl)
    (ht : eval (.Call (.Attribute o m apos) (e :: es) [] pos) X.env = (do
      let w0 ← eval o X.env
      standAt apos.atName
      let (g0, us0) ← holding [w0] (getMethod w0 m pl)
      callWith pos g0 us0 (backTo pos (starEach (e :: es) X.env)) (backToKw pos (keywordEach [] X.env))) := by rfl) :
    PE X (.Call (.Attribute o m apos) (e :: es) [] pos) (tMethS C m sp (fun σ cls d H => W cls d σ H) ta t) := by
  obtain ⟨fd, F1, b, kp⟩ := F
  refine ⟨fun pins s σ H Q I h => ?_⟩
  refine PySem.W.methodCall_KW (pl := pl) (thn (he.run pins s σ H _ I h) fun u s1 ⟨x, H1, I1, rx, a, dx, fs, ex, ea, l, q⟩ => ?_) ht
  subst ex
  obtain rfl : u = Value.ref a := rx
  refine getmeth_ok I1 ea c hm l ?_
  refine PySem.W.callWith_K (first := [.ref a]) (h₀ := X.base) I.ok.mod.kin hm.kp (thn (ha.run pos pins s1 σ H1 _ I1 q) fun us s2 ⟨vs, H2, I2, r, q2⟩ => ⟨I2.kIn, ?_⟩) hst hpl
  exact run_fnSD (us := .ref a :: us) (vs := .ref a :: vs) (dvs := []) (E := fun σ cls d H => W cls d σ H) F1 hr b .nil (passAt tk σ) I2 (.cons rfl r) (by rw [List.append_nil]; exact q2)
def tCallOS (C : Addr) (sp : Sp) (E : L2.St → XK) (tf : TE) (t : TA) : TE := fun σ H Q => tf σ H fun y H1 => ∃ a, y = V.ref a ∧ t σ H1 fun vs H2 => (∃ dx fs, H2 a = some (.ins C dx fs)) ∧ sp (V.ref a :: vs) H2 Q (E σ)
theorem ok_callOS {W : WX} (c : StX.CallO X.K C g) (F : Ok X.prog X.w X.K X.mg X.base k g ps sp) (hr : Room k X.A) (tk : Takes X W) (hf : PE X fe tf) (ha : PA X (e :: es) t)
    (ht : eval (.Call fe (e :: es) [] pos) X.env = (do callWith pos (← eval fe X.env) [] (backTo pos (starEach (e :: es) X.env)) (backToKw pos (keywordEach [] X.env))) := by rfl)
    (he : starEach (e :: es) X.env = (false, eval e X.env) :: starEach es X.env := by rfl) (hpl : (backTo pos (starEach es X.env)).any (·.1) = false := by rfl) : PE X (.Call fe (e :: es) [] pos) (tCallOS C sp (fun σ cls d H => W cls d σ H) tf t) := by
  obtain ⟨fd, F1, b, kp⟩ := F
  refine ⟨fun pins s σ H Q I h => ?_⟩
  refine Call_ (thn (hf.run pins s σ H _ I h) fun u s1 ⟨y, H1, I1, ry, a, ey, q⟩ => ?_) ht
  subst ey
  obtain rfl : u = Value.ref a := ry
  refine StX.callO_with (thn (ha.run pos pins s1 σ H1 _ I1 q) fun us s2 ⟨vs, H2, I2, r, hi, q2⟩ => ?_) he hpl
  obtain ⟨ox, od, J, hd⟩ := StX.insC_at I2 (.inr hi)
  refine ⟨⟨C, ox, od, J, hd⟩, wpAny_call (PySem.W.kco_code I2.kIn J hd c.at_ c.fn c.fi ?_)⟩
  have r2 : Vals (V.ref a :: vs) (Value.ref a :: us) := .cons rfl r
  have hl : (Value.ref a :: us).length = ps.length := by rw [← r2.length]; exact F1.len _ _ _ _ q2
  have bd := b s2 (Value.ref a :: us) I2.kIn (by simpa using hl)
  rw [List.append_nil] at bd
  refine codeAny_mono (F1.run X.A X.stack s2 H2 ⟨Value.ref a :: us, []⟩ (Value.ref a :: us) (V.ref a :: vs) Q _ hr I2.env0 bd r2 q2) fun r s' hq => ?_
  cases r with
  | error e => exact passAt tk σ pins H2 s2 e s' I2 hq
  | ok fl =>
    cases fl with
    | ret u => exact I2.after hq
    | next => exact False.elim hq
    | brk => exact False.elim hq
    | cont => exact False.elim hq
/-- an instance called, told without the context (for a comprehension's block) -/
def tCallI (C : Addr) (sp : Sp) (E : XK) (tf : TE) (t : TA) : TE := fun σ H Q => tf σ H fun y H1 => ∃ a, y = V.ref a ∧ t σ H1 fun vs H2 => (∃ dx fs, H2 a = some (.ins C dx fs)) ∧ sp (V.ref a :: vs) H2 Q E
theorem ok_callI {E : XK} (c : StX.CallO X.K C g) (F : Ok X.prog X.w X.K X.mg X.base k g ps sp) (hr : Room k X.A) (hx : Passes (L2.CX X.prog X.w) X E) (hf : PE X fe tf) (ha : PA X (e :: es) t)
    (ht : eval (.Call fe (e :: es) [] pos) X.env = (do callWith pos (← eval fe X.env) [] (backTo pos (starEach (e :: es) X.env)) (backToKw pos (keywordEach [] X.env))) := by rfl)
    (he : starEach (e :: es) X.env = (false, eval e X.env) :: starEach es X.env := by rfl) (hpl : (backTo pos (starEach es X.env)).any (·.1) = false := by rfl) : PE X (.Call fe (e :: es) [] pos) (tCallI C sp E tf t) := by
  obtain ⟨fd, F1, b, kp⟩ := F
  have FR := (FnOk.raw F1 b .nil).imp (sp' := sp) fun vs H Q E h => by rw [List.append_nil]; exact h
  refine ⟨fun pins s σ H Q I h => ?_⟩
  refine Call_ (thn (hf.run pins s σ H _ I h) fun u s1 ⟨y, H1, I1, ry, a, ey, q⟩ => ?_) ht
  subst ey
  obtain rfl : u = Value.ref a := ry
  refine StX.callO_with (thn (ha.run pos pins s1 σ H1 _ I1 q) fun us s2 ⟨vs, H2, I2, r, hi, q2⟩ => ?_) he hpl
  obtain ⟨ox, od, J, hd⟩ := StX.insC_at I2 (.inr hi)
  exact ⟨⟨C, ox, od, J, hd⟩, StX.run_callO c FR hr hx I2 (.inr hi) r q2⟩
end
end AT

set_option maxHeartbeats 4000000
namespace AT
open PySem PySem.Spec PyProof.Rows L2
section
open MeetsSeq MeetsSeq2 MeetsSeq3 SeqRoads2 GQ
open AutoSeq1 (wpAny_loadPart')
variable {prog : Program} {w : World} {A : Around} {R : Result → Shared → Prop} {E : Value → Shared → Prop} {s : Shared}
/-- != of two lists whose items are equal one by one -/
theorem ne_loopG (l b : Addr) (N : Nat) (I : Nat → Shared → Prop) (hl : ListI prog w A (fun e s' => R (.error e) s') l b N I)
    (fin : ∀ s, I N s → R (.ok (.ret (.bool false))) s) (k : Nat) :
    ∀ i : Nat, N - i = k → i ≤ N → ∀ s, I i s →
      wpAny (model prog w) A.in1 (Builtin.«list.__eq__.loop» ⟨[.ref l, .ref b, rawInt i, rawInt 3], []⟩) (FinOf prog w A R) (fun e s' => R (.error e) s') s := by
  induction k with
  | zero =>
    intro i hk hi s h
    obtain ⟨items, items2, n, n2, hl1, hb1, hs1, hs2, _⟩ := hl _ _ h
    have hi' : i = N := by omega
    have hR : R (.ok (.ret (.bool false))) s := fin s (hi' ▸ h)
    obtain ⟨hp, g, d, tk, os⟩ := s
    wp_walk using wpAny_loadPart' hl1, wpAny_loadPart' hb1
    have hi1 : items[((i : Nat) : Int).toNat]? = none := by simp; omega
    have hi2 : items2[((i : Nat) : Int).toNat]? = none := by simp; omega
    rw [hi1, hi2]
    wp_walk using wpAny_loadPart' hl1, wpAny_loadPart' hb1
    show R (.ok (.ret (.bool (items.size != items2.size)))) _
    rw [hs1, hs2]
    simpa using hR
  | succ k ih =>
    intro i hk hi s h
    obtain ⟨items, items2, n, n2, hl1, hb1, hs1, hs2, turn⟩ := hl _ _ h
    have hlt : i < items.size := by omega
    have hlt2 : i < items2.size := by omega
    have ht := turn hlt hlt2
    obtain ⟨hp, g, d, tk, os⟩ := s
    wp_walk using wpAny_loadPart' hl1, wpAny_loadPart' hb1
    have hi1 : items[((i : Nat) : Int).toNat]? = some items[i] := by simp [hlt]
    have hi2 : items2[((i : Nat) : Int).toNat]? = some items2[i] := by simp [hlt2]
    have hc : ((i : Int) + 1) = ((i + 1 : Nat) : Int) := by omega
    rw [hi1, hi2]
    refine wpAny_bind (wpAny_mono ht (fun r s2 h2 => ?_) fun _ _ x => x)
    obtain ⟨hr, h2⟩ := h2
    subst hr
    have hrec := ih (i + 1) (by omega) (by omega) s2 h2
    obtain ⟨hp2, g2, d2, tk2, os2⟩ := s2
    wp_walk
    rw [hc]
    exact ⟨plainId_quiet plain_eq_loop _, codeAny_builtin entry_eq_loop (by
      rw [Around.under_plainId plain_eq_loop _]
      exact hrec)⟩
theorem list_neG (l b : Addr) (N : Nat) (I : Nat → Shared → Prop) (hl : ListI prog w A (fun e s' => R (.error e) s') l b N I)
    (fin : ∀ s, I N s → R (.ok (.ret (.bool false))) s) {s : Shared} (h : I 0 s) :
    wpAny (model prog w) A.in1 (Builtin.«list.__ne__» ⟨[.ref l, .ref b], []⟩) (FinOf prog w A R) (fun e s' => R (.error e) s') s := by
  obtain ⟨items, items2, n, n2, hl1, hb1, hs1, hs2, _⟩ := hl _ _ h
  have hrec := ne_loopG (A := A) (R := R) l b N I hl fin _ 0 rfl (Nat.zero_le _) s h
  obtain ⟨hp, g, d, tk, os⟩ := s
  have f3 := AutoSeq1.sub_list_list
  have hne : ¬ (items.size != items2.size) = true := by simp [hs1, hs2]
  wp_walk using wpAny_loadPart' hl1, wpAny_loadPart' hb1
  exact ⟨plainId_quiet plain_eq_loop _, codeAny_builtin entry_eq_loop (by
    rw [Around.under_plainId plain_eq_loop _]
    exact hrec)⟩
theorem rc_listN {l b : Addr} {N : Nat} {Q : Value → Shared → Prop} (hu : A.units < cLine) (I : Nat → Shared → Prop) (hl : ListI prog w A E l b N I)
    (fin : ∀ s, I N s → Q (.bool false) s) (h : I 0 s) : wpAny (model prog w) A (richCompare .NotEq (.ref l) (.ref b)) Q E s := by
  obtain ⟨items, items2, n, n2, hl1, hb1, _, _, _⟩ := hl _ _ h
  refine wpAny_richCompare_same_room (op := .NotEq) ⟨_, hl1, rfl⟩ ⟨_, hb1, rfl⟩ F.slot_list_ne (call_here F.slot_list_ne ⟨_, hl1, rfl⟩ F.entry_list_ne (F.args_list_ne_2 _ _) ?_) hu
  exact list_neG (R := wants (fun v s' => v ≠ .notImplemented ∧ Q v s') E) l b N I hl (fun s' q => ⟨(fun x => nomatch x), fin s' q⟩) h
end
section
variable {X : Cx} {n m : Nat} {D D' : Cmp}
theorem EqB.mono (h : EqB X n D) (hn : n ≤ m) : EqB X m D := fun A pins s σ H x y u v b sb => h A pins s σ H x y u v b (sb.mono hn)
theorem EqB.or (h : EqB X n D) (h' : EqB X n D') : EqB X n (fun x y H b => D x y H b ∨ D' x y H b) := fun A pins s σ H x y u v b sb I rx ry d => by
  rcases d with d | d
  · exact h A pins s σ H x y u v b sb I rx ry d
  · exact h' A pins s σ H x y u v b sb I rx ry d
/-- the very same objects, and flat values -/
def CPair : Cmp := fun x y _ b => EqPair x y b
theorem eqB_pair : EqB X 0 CPair := fun A pins s σ H x y u v b sb I rx ry d => (EqPair.at (A := A) (s := s) d rx ry) X.prog X.w X.xe _ ⟨rfl, I⟩
/-- x != y of lists that are equal item by item -/
def rNeB (D : Cmp) : R2 := fun x y H Q => ∃ p q xs ys, x = .ref p ∧ y = .ref q ∧ H p = some (.lst xs) ∧ H q = some (.lst ys) ∧ xs.length = ys.length ∧ (∀ (i : Nat) x y, xs[i]? = some x → ys[i]? = some y → D x y H true) ∧ Q (.bl false) H
theorem op_neB (h : EqB X n D) (hr : Room (n + 1) X.A) : OpR X (compareOp .NotEq) (rNeB D) := by
  intro pins s σ H x y v u Q I rx ry hq
  obtain ⟨p, q, xs, ys, rfl, rfl, hp, hq, hlen, he, k⟩ := hq
  cases rx
  cases ry
  have sb : Sub X (n + 1) X.A := ⟨hr, rfl⟩
  show wpAny (model X.prog X.w) X.A (richCompare .NotEq (.ref p) (.ref q)) (EP X pins σ Q) X.xe s
  refine rc_listN (N := xs.length) hr.units0 (fun _ t => Inv X pins σ H t) (fun i t It => ?_) (fun t It => ⟨.bl false, H, It, rfl, k⟩) I
  obtain ⟨z, its, k1, r1, e1⟩ := It.hok p _ hp
  obtain ⟨z2, its2, k2, r2, e2⟩ := It.hok q _ hq
  refine ⟨its.toArray, its2.toArray, k1, k2, e1, e2, by rw [List.size_toArray, ← r1.length], by rw [List.size_toArray, ← r2.length, ← hlen], fun h1 h2 => ?_⟩
  rw [List.size_toArray] at h1 h2
  have g1 : i < xs.length := by rw [r1.length]; exact h1
  have g2 : i < ys.length := by rw [r2.length]; exact h2
  obtain ⟨u1, a1, b1⟩ := r1.get (List.getElem?_eq_getElem g1)
  obtain ⟨u2, a2, b2⟩ := r2.get (List.getElem?_eq_getElem g2)
  rw [List.getElem?_eq_getElem h1] at a1
  rw [List.getElem?_eq_getElem h2] at a2
  cases a1
  cases a2
  exact h X.A.in1 pins t σ H _ _ _ _ _ sb.in1 It b1 b2 (he i _ _ (List.getElem?_eq_getElem g1) (List.getElem?_eq_getElem g2))
end
end AT

set_option maxHeartbeats 4000000
namespace AT
open PySem PySem.Spec PyProof.Rows L2
/-! ### x in o, x not in o by an own __contains__ -/
def rInO (C : Addr) (sp : Sp) (E : XK) : R2 := fun y x H Q => ∃ p d fs, x = .ref p ∧ H p = some (.ins C d fs) ∧ sp [.ref p, y] H (fun v H' => ∃ b, v = .bl b ∧ Q (.bl b) H') E
def rNotInO (C : Addr) (sp : Sp) (E : XK) : R2 := fun y x H Q => ∃ p d fs, x = .ref p ∧ H p = some (.ins C d fs) ∧ sp [.ref p, y] H (fun v H' => ∃ b, v = .bl b ∧ Q (.bl !b) H') E
section
variable {X : Cx} {C f : Addr} {k : Nat} {ps : List Str} {sp : Sp} {E : XK}
theorem op_inO (M : Meth X.K C "__contains__" f) (F : Ok X.prog X.w X.K X.mg X.base k f ps sp) (hr : Room k X.A) (hx : Passes (L2.CX X.prog X.w) X E) : OpR X (compareOp .In) (rInO C sp E) := by
  intro pins s σ H x y v u Q I rx ry h
  obtain ⟨p, d, fs, rfl, hp, hsp⟩ := h
  obtain ⟨fd, F1, b, kp⟩ := F
  cases ry
  obtain ⟨mA, J, _⟩ := ins_get I.hok hp
  obtain ⟨od, J, _⟩ := J.look
  obtain ⟨m, hF⟩ := I.fr
  refine PySem.W.in_K hF I.ok.mod.kin J M.at_ M.fn (wpAny_mono (run_fn (us := [.ref p, v]) (vs := [.ref p, x]) (ds := []) (dvs := []) F1 hr b .nil hx I (.cons rfl (.cons rx .nil)) hsp) (fun r s' z => ?_) fun _ _ z => z)
  obtain ⟨x', H', I', r', b', rfl, q⟩ := z
  cases r'
  exact wpAny_truthy_bool ⟨.bl b', H', I', rfl, q⟩
theorem op_notInO (M : Meth X.K C "__contains__" f) (F : Ok X.prog X.w X.K X.mg X.base k f ps sp) (hr : Room k X.A) (hx : Passes (L2.CX X.prog X.w) X E) : OpR X (compareOp .NotIn) (rNotInO C sp E) := by
  intro pins s σ H x y v u Q I rx ry h
  obtain ⟨p, d, fs, rfl, hp, hsp⟩ := h
  obtain ⟨fd, F1, b, kp⟩ := F
  cases ry
  obtain ⟨mA, J, _⟩ := ins_get I.hok hp
  obtain ⟨od, J, _⟩ := J.look
  obtain ⟨m, hF⟩ := I.fr
  refine PySem.W.notIn_K hF I.ok.mod.kin J M.at_ M.fn (wpAny_mono (run_fn (us := [.ref p, v]) (vs := [.ref p, x]) (ds := []) (dvs := []) F1 hr b .nil hx I (.cons rfl (.cons rx .nil)) hsp) (fun r s' z => ?_) fun _ _ z => z)
  obtain ⟨x', H', I', r', b', rfl, q⟩ := z
  cases r'
  exact wpAny_truthy_bool ⟨.bl (!b'), H', I', rfl, q⟩
end
end AT

set_option maxHeartbeats 4000000
namespace AT
open PySem PySem.Spec PyProof.Rows L2
/-! ### one of two readings -/
theorem pg_or {X : Cx} {e : Expr} {t u : TG} (h : PG X e t) (g : PG X e u) : PG X e (fun v σ H Q => t v σ H Q ∨ u v σ H Q) := ⟨fun pins s σ H v w Q I r z => z.elim (h.run pins s σ H v w Q I r) (g.run pins s σ H v w Q I r)⟩
theorem pi_or {X : Cx} {tg e : Expr} {t u : TI} (h : PI X tg e t) (g : PI X tg e u) : PI X tg e (fun σ H R => t σ H R ∨ u σ H R) := ⟨fun pins s σ H R I z => z.elim (h.run pins s σ H R I) (g.run pins s σ H R I)⟩
theorem pe_or2 {X : Cx} {e : Expr} {t u : TE} (h : PE X e t) (g : PE X e u) : PE X e (fun σ H Q => t σ H Q ∨ u σ H Q) := ⟨fun pins s σ H Q I z => z.elim (h.run pins s σ H Q I) (g.run pins s σ H Q I)⟩
/-- a list or a tuple walked -/
def iSq (K : PySem.W.Frag) (te : TE) : TI := fun σ H R => te σ H fun v H1 => ∃ a xs, v = .ref a ∧ (SqL K H1 a xs ∨ SqT K H1 a xs) ∧ ∀ (J : It) (G : Hp → Prop), Walk J xs.length G (YAt xs) → (∀ H' : Hp, H' a = H1 a → G H') → R J H1
theorem pi_sq {X : Cx} {tg l : Expr} {tl : TE} (hl : PE X l tl) : PI X tg l (iSq X.K tl) := by
  refine ⟨fun pins s σ H R I h => ?_⟩
  refine thn (hl.run pins s σ H _ I h) fun v s1 ⟨x, H1, I1, r1, q1⟩ => ?_
  obtain ⟨a, xs, e, hq | hq, q⟩ := q1
  · subst e
    cases r1
    obtain ⟨its, rv, p, hz⟩ := I1.list hq
    refine wpAny_pyIter_list p.isList ?_
    refine ⟨s1.heap.objs.size, [s1.heap.objs.size], _, _, H1, rfl, I1.kept (t' := s1.toks) fun b o e => Heap.get?_push_of_some _ e, turn_list a _, ⟨_, Heap.get?_push_size _ rfl, rfl, rfl⟩, fun b hb => ?_, q _ _ (walk_list (xs := xs)) fun H' e => ?_⟩
    · have e : b = s1.heap.objs.size := by simpa using hb
      subst e
      exact I1.fpOk (Nat.le_refl _) (I1.hok.fresh (Nat.le_refl _))
    · rcases hq with (h | ⟨o, h⟩) | h
      · exact .inl (.inl (e.trans h))
      · exact .inl (.inr ⟨o, e.trans h⟩)
      · exact .inr h
  · subst e
    cases r1
    obtain ⟨its, rv, p, hz⟩ := I1.tuple hq
    refine wpAny_pyIter_tuple (show s1.heap.IsTuple a its.toArray from p) ?_
    refine ⟨s1.heap.objs.size, [s1.heap.objs.size], _, _, H1, rfl, I1.kept (t' := s1.toks) fun b o e => Heap.get?_push_of_some _ e, turn_tuple a _, ⟨_, Heap.get?_push_size _ rfl, rfl, rfl⟩, fun b hb => ?_, q _ _ (walk_tup (xs := xs)) fun H' e => ?_⟩
    · have e : b = s1.heap.objs.size := by simpa using hb
      subst e
      exact I1.fpOk (Nat.le_refl _) (I1.hok.fresh (Nat.le_refl _))
    · rcases hq with (h | ⟨o, h⟩) | h
      · exact .inl (.inl (e.trans h))
      · exact .inl (.inr ⟨o, e.trans h⟩)
      · exact .inr h
/-- reversed(a tuple) -/
theorem walk_revT {K : PySem.W.Frag} {a : Addr} {xs : List V} : Walk (RT.ItvT K a xs.length) xs.length (fun H => SqT K H a xs) (fun i H x H' => H' = H ∧ xs[xs.length - 1 - i]? = some x) :=
  ⟨fun i _ hi q => ⟨hi, xs, xs[xs.length - 1 - i]'(by omega), q, by simp [show xs.length - 1 - i < xs.length by omega]⟩, fun _ _ => Nat.le_refl _, fun _ _ _ _ _ q y => ⟨y.1, y.2 xs q⟩⟩
/-! ### len(set(xs)), ints, some of them more than once -/
def metOf (ns : List Int) : List Int := PyProof.Rows.firstMet (fun i => ns.getD i 0) ns.length
theorem met_append (l r : List Int) : metOf (l ++ r) = r.foldl (fun acc x => if acc.any (· == x) then acc else acc ++ [x]) (metOf l) := by
  have gen : ∀ (n : Nat) (f g : Nat → Int), (∀ i, i < n → f i = g i) → PyProof.Rows.firstMet f n = PyProof.Rows.firstMet g n := by
    intro n
    induction n with
    | zero => intro f g _; rfl
    | succ n ih =>
      intro f g h
      rw [PyProof.Rows.firstMet_succ, PyProof.Rows.firstMet_succ, ih f g fun i hi => h i (by omega), h n (by omega)]
  have one : ∀ (l : List Int) (x : Int), metOf (l ++ [x]) = if (metOf l).any (· == x) then metOf l else metOf l ++ [x] := by
    intro l x
    unfold metOf
    rw [List.length_append, List.length_singleton, PyProof.Rows.firstMet_succ, gen l.length (fun i => (l ++ [x]).getD i 0) (fun i => l.getD i 0) (fun i hi => by simp [List.getD_eq_getElem?_getD, List.getElem?_append_left hi])]
    have e : (l ++ [x]).getD l.length 0 = x := by simp [List.getD_eq_getElem?_getD]
    rw [e]
    rfl
  induction r generalizing l with
  | nil => rw [List.append_nil]; rfl
  | cons x r ih =>
    have : l ++ x :: r = (l ++ [x]) ++ r := by simp
    rw [this, ih, one]
    rfl
theorem met_nodup {l : List Int} (h : l.Nodup) : metOf l = l := by
  unfold metOf
  rw [RZ.firstMet_nodup h l.length (Nat.le_refl _), List.take_length]
/-- behind a list of unlike ones a second one, of which just x stands in the first -/
theorem met_two {l r : List Int} {x : Int} (hl : l.Nodup) (hr : r.Nodup) (h1 : x ∈ l) (h2 : x ∈ r) (h3 : ∀ y, y ∈ l → y ∈ r → y = x) : (metOf (l ++ r)).length + 1 = (l ++ r).length := by
  rw [met_append, met_nodup hl]
  have key : ∀ (r acc : List Int), r.Nodup → (r.foldl (fun acc x => if acc.any (· == x) then acc else acc ++ [x]) acc).length = acc.length + (r.filter fun y => !acc.any (· == y)).length := by
    intro r
    induction r with
    | nil => intro acc _; rfl
    | cons y r ih =>
      intro acc hn
      obtain ⟨hy, hn⟩ := List.nodup_cons.mp hn
      rw [List.foldl_cons]
      cases c : acc.any (· == y) with
      | true =>
        rw [if_pos rfl, ih acc hn, List.filter_cons_of_neg (by rw [c]; simp)]
      | false =>
        rw [if_neg (by simp), ih _ hn, List.filter_cons_of_pos (by rw [c]; rfl), List.length_append, List.length_singleton, List.length_cons]
        have e : (r.filter fun z => !(acc ++ [y]).any (· == z)) = r.filter fun z => !acc.any (· == z) := by
          refine List.filter_congr fun z hz => ?_
          rw [List.any_append]
          have : ([y].any (· == z)) = false := by
            simp only [List.any_cons, List.any_nil, Bool.or_false, beq_eq_false_iff_ne]
            rintro rfl
            exact hy hz
          rw [this, Bool.or_false]
        rw [e]
        omega
  rw [key r l hr, List.length_append]
  have fl : ∀ r : List Int, r.Nodup → x ∈ r → (∀ y, y ∈ l → y ∈ r → y = x) → (r.filter fun y => !l.any (· == y)).length + 1 = r.length := by
    intro r
    induction r with
    | nil => intro _ h _; cases h
    | cons y r ih =>
      intro hn hx h3
      obtain ⟨hy, hn⟩ := List.nodup_cons.mp hn
      rcases List.mem_cons.mp hx with rfl | hx
      · have e : (List.filter (fun y => !l.any (· == y)) (x :: r)) = r := by
          rw [List.filter_cons_of_neg (by rw [List.any_eq_true.mpr ⟨x, h1, by simp⟩]; simp)]
          refine List.filter_eq_self.mpr fun z hz => ?_
          rw [Bool.not_eq_true', List.any_eq_false]
          intro q hq
          simp only [beq_iff_eq]
          rintro rfl
          exact hy (h3 q hq (List.mem_cons_of_mem _ hz) ▸ hz)
        rw [e]
        rfl
      · have nl : y ∉ l := fun hyl => hy (h3 y hyl (by simp) ▸ hx)
        have e : (l.any (· == y)) = false := by
          rw [List.any_eq_false]
          intro q hq
          simp only [beq_iff_eq]
          rintro rfl
          exact nl hq
        rw [List.filter_cons_of_pos (by rw [e]; rfl), List.length_cons, List.length_cons, ih hn hx fun z hz hz2 => h3 z hz (List.mem_cons_of_mem _ hz2)]
  have := fl r hr h2 h3
  omega
def tLenSetM (K : PySem.W.Frag) (ta : TE) : TE := fun σ H Q => ta σ H fun x H1 => ∃ (l : Addr) (ns : List Int), x = .ref l ∧ SqL K H1 l (ns.map V.int) ∧ ns.length ≤ 4000 ∧ Q (.int ((metOf ns).length : Nat)) H1
theorem met_le (ns : List Int) : (metOf ns).length ≤ ns.length := by
  exact PyProof.Rows.firstMet_length_le _ _
theorem pe_lenSetM {X : Cx} {a : Expr} {ta : TE} {p p2 q pos : Pos} (hg : Gl X "len") (hm : X.mg "len" = none) (hg2 : Gl X "set") (hm2 : X.mg "set" = none) (ha : PE X a ta) (hc : X.calm = true := by rfl)
    (na : starEach [a] X.env = (false, eval a X.env) :: starEach [] X.env := by rfl) : PE X (.Call (.Name "len" p) [.Call (.Name "set" p2) [a] [] q] [] pos) (tLenSetM X.K ta) := by
  refine ⟨fun pins s σ H Q I h => ?_⟩
  refine Call_ (ld_blt I hg hm boot_len ?_)
  refine PyProof.Rows.callWith_builtin1 (PyProof.Rows.args_cons ?_ rfl) rfl rfl
  refine Call_ (ld_blt I hg2 hm2 boot_set ?_)
  refine PyProof.Rows.callWith_type1 (PyProof.Rows.args_cons (thn (ha.run pins s σ H _ I h) fun v s1 ⟨x, H1, I1, r1, q1⟩ => PyProof.Rows.args_nil ?_) na) na rfl
  obtain ⟨l, ns, rfl, hq, hl, q1⟩ := q1
  cases r1
  obtain ⟨its, r, pl, hz⟩ := I1.list hq
  have hlen : its.toArray.size = ns.length := by rw [List.size_toArray, ← r.length, List.length_map]
  refine call_set_list (I1.ok.hd hc) pl.isList (by simpa using RZ.intsAre_vals r) (by rw [hlen]; unfold scanBound; omega) fun h' tk hS hk => ?_
  refine PyProof.Rows.args_nil ?_
  rw [hlen] at hS
  have hm := met_le ns
  obtain ⟨o, es, ep, t, ho, hex, hd, _, _, _, hf, hn⟩ := hS
  have I2 : Inv X pins σ H1 { s1 with heap := h', toks := tk } := I1.kept fun b o e => hk b o (Heap.lt_size e) e
  exact call_len_set ho hex hd hf (by rw [hn]; unfold metOf at hm; omega) ⟨.int (metOf ns).length, H1, I2.tok _, ⟨_, by rw [hn]; rfl⟩, q1⟩
/-! ### list(reversed(a list)) -/
section
variable {prog : Program} {w : World} {A : Around} {E : Value → Shared → Prop} {s : Shared}
theorem extend_rev {R : Result → Shared → Prop} {it l : Addr} {items : Array Value} (hh : A.handled = none) (hit : s.heap.IsRevIter it l ((items.size : Int) - 1)) (hl : s.heap.IsList l items) (hne : l ≠ it) (hn : items.size ≤ sizeLine) (S : Addr) (res : Value) (c₀ : Nat)
    (hSi : S ≠ it) (hSl : S ≠ l) (hS : s.heap.get? S = some { cls := .type "list", data := .seq #[] c₀ })
    (hR : ∀ h' tk acc' c', (∀ b o, b ≠ S → b ≠ it → s.heap.get? b = some o → h'.get? b = some o) → h'.get? S = some { cls := .type "list", dict := none, data := .seq acc' c', slots := #[] } →
      ItemsOf (fun i v => items[items.size - 1 - i]? = some v) acc' items.size → R (.ok (.ret res)) { s with heap := h', toks := tk }) :
    wpAny (model prog w) A.in1 (Builtin.List.listExtendWith (.ref S) (.ref it) res)
      (fun fin s' => match fin with | .done f => R (.ok f) s' | .again c' => c'.quiet = true ∧ codeAny (model prog w) A c' R s') (fun e s' => R (.error e) s') s := by
  have W := (Walks.listRev (prog := prog) (w := w) (A := A.in1) hh it l hne items).toS
  have hSf : S ∉ [it, l] := by simp only [List.mem_cons, List.not_mem_nil, or_false, not_or]; exact ⟨hSi, hSl⟩
  have hT : s.TypeIs (.ref it) "list_reverseiterator" := hit.typeIs
  have h1 : Builtin.List.listSameRef (.ref S) (.ref it) = false := by simp [Builtin.List.listSameRef, hSi]
  unfold Builtin.List.listExtendWith
  refine wpAny_bind (wpAny_typeOf hT ?_)
  rw [if_neg (by rw [h1]; decide)]
  refine wpAny_bind (wpAny_pyIter_revIter hit ?_)
  refine wpAny_bind (wpAny_holding ?_)
  unfold Builtin.List.listLengthHint
  refine wpAny_bind (wpAny_specialOf hT RT.nolen_lri ?_)
  show wpAny _ A.in1 (specialOf (Value.ref it) (Str.ofString "__length_hint__") >>= _) _ _ _
  refine wpAny_bind (wpAny_specialOf hT RT.hint_lri ?_)
  generalize hid : ("list_reverseiterator.__length_hint__" : String) = id0
  wp_delta
  rw [show splitId id0 = some ("list_reverseiterator", "__length_hint__") from by subst hid; decide +kernel]
  subst hid
  refine wpAny_bind (wpAny_isInstance (b := true) hT (by rw [isSubtype_type]; kernel_rfl) ?_)
  refine wpAny_pure ?_
  rw [if_neg (by decide)]
  have e0 : ((items.size : Nat) : Int) - 1 - ((0 : Nat) : Int) = (items.size : Int) - 1 := by omega
  refine wpAny_pure ⟨plainId_quiet F.plain_extend_loop _, codeAny_extend_loopS W hn _ hSf _ items.size 0 _ _ _ rfl (Nat.zero_le _) ⟨Nat.zero_le _, by rw [e0]; exact hit, hl⟩ hS (ItemsOf.nil _) fun s' acc' c' hm hS' hacc => ?_⟩
  rw [Moved.eq_with hm]
  refine hR s'.heap s'.toks acc' c' (fun b o hb hb2 e => hm.heap b o (fun hmem => ?_) e) hS' hacc
  rcases List.mem_cons.mp hmem with e' | hmem
  · exact hb e'
  · exact hb2 (List.mem_singleton.mp hmem)
theorem list_init_rev {R : Result → Shared → Prop} {it l : Addr} {items : Array Value} (hh : A.handled = none) (hit : s.heap.IsRevIter it l ((items.size : Int) - 1)) (hl : s.heap.IsList l items) (hne : l ≠ it) (hn : items.size ≤ sizeLine) (S : Addr)
    (hSi : S ≠ it) (hSl : S ≠ l) (hS : s.heap.get? S = some { cls := .type "list", data := .seq #[] })
    (hR : ∀ h' tk acc' c', (∀ b o, b ≠ S → b ≠ it → s.heap.get? b = some o → h'.get? b = some o) → h'.get? S = some { cls := .type "list", dict := none, data := .seq acc' c', slots := #[] } →
      ItemsOf (fun i v => items[items.size - 1 - i]? = some v) acc' items.size → R (.ok (.ret .none)) { s with heap := h', toks := tk }) :
    wpAny (model prog w) A.in1 (Builtin.«list.__init__» ⟨[.ref S, .ref it], []⟩)
      (fun fin s' => match fin with | .done f => R (.ok f) s' | .again c' => c'.quiet = true ∧ codeAny (model prog w) A c' R s') (fun e s' => R (.error e) s') s := by
  show wpAny _ _ (do let old ← Builtin.List.listItems (.ref S); Builtin.List.listUpdate (.ref S) (fun _ => #[]); letGo old.toList.reverse; Builtin.List.listExtendWith (.ref S) (.ref it) .none) _ _ s
  refine wpAny_bind ?_
  unfold Builtin.List.listItems
  refine wpAny_bind (wpAny_seqItems hS rfl (wpAny_pure ?_))
  show wpAny _ _ (updateSeq S (fun _ => #[]) >>= fun _ => letGo (#[] : Array Value).toList.reverse >>= fun _ => Builtin.List.listExtendWith (.ref S) (.ref it) .none) _ _ s
  refine wpAny_bind (wpAny_updateSeq hS rfl ?_)
  have hS₂ := Heap.get?_update_self (Obj.mapSeq (fun _ => (#[] : Array Value))) hS rfl
  have oth : ∀ b o, b ≠ S → s.heap.get? b = some o → (s.heap.update S (Obj.mapSeq (fun _ => (#[] : Array Value)))).get? b = some o :=
    fun b o hb e => (Heap.get?_update_other _ _ (Ne.symm hb)).trans e
  refine wpAny_bind (wpAny_letGo ?_)
  refine extend_rev hh (hit.at fun o e => oth _ _ (Ne.symm hSi) e) (hl.at fun o e => oth _ _ (Ne.symm hSl) e) hne hn S .none _ hSi hSl hS₂ fun h' tk acc' c' hk hS' hacc => ?_
  exact hR h' tk acc' c' (fun b o hb hb2 e => hk b o hb hb2 (oth b o hb e)) hS' hacc
theorem call_list_rev {Q : Value → Shared → Prop} {it l : Addr} {items : Array Value} (hh : A.handled = none) (hit : s.heap.IsRevIter it l ((items.size : Int) - 1)) (hl : s.heap.IsList l items) (hne : l ≠ it) (hn : items.size ≤ sizeLine)
    (hQ : ∀ h' tk acc' c', (∀ b o, b ≠ it → s.heap.get? b = some o → h'.get? b = some o) →
      h'.get? s.heap.objs.size = some { cls := .type "list", dict := none, data := .seq acc' c', slots := #[] } → ItemsOf (fun i v => items[items.size - 1 - i]? = some v) acc' items.size → Q (.ref s.heap.objs.size) { s with heap := h', toks := tk }) :
    wpAny (model prog w) A (call (.type "list") [.ref it]) Q E s := by
  obtain ⟨oi, hoi, _⟩ := id hit
  obtain ⟨ol, hol, _⟩ := id hl
  have hSi : s.heap.objs.size ≠ it := Nat.ne_of_gt (Heap.lt_size hoi)
  have hSl : s.heap.objs.size ≠ l := Nat.ne_of_gt (Heap.lt_size hol)
  refine callType_codes (Q₁ := fun obj s₁ => obj = .ref s.heap.objs.size ∧ s₁ = { s with heap := s.heap.push { cls := .type "list", data := .seq #[] } }) F.called_list (F.typeCall_list_1 _) F.entry_list_init
    (code_list_new _ ⟨rfl, rfl⟩) fun obj s₁ h₁ => ?_
  obtain ⟨rfl, rfl⟩ := h₁
  have hS : (s.heap.push { cls := .type "list", data := .seq #[] }).get? s.heap.objs.size = some { cls := .type "list", data := .seq #[] } := Heap.get?_push_size _ rfl
  refine ⟨⟨_, hS, rfl⟩, F.args_list_init_2 _ _, list_init_rev (A := A.in1) hh (hit.at fun o e => Heap.get?_push_of_some _ e) (hl.push _) hne hn _ hSi hSl hS fun h' tk acc' c' hk hS' hacc => ?_⟩
  exact ⟨rfl, hQ h' tk acc' c' (fun b o hb e => hk b o (Nat.ne_of_lt (Heap.lt_size e)) hb (Heap.get?_push_of_some _ e)) hS' hacc⟩
end
def tListRev (K : PySem.W.Frag) (te : TE) : TE := fun σ H Q => te σ H fun v H1 => ∃ (a : Addr) (xs : List V), v = .ref a ∧ SqL K H1 a xs ∧ ∀ q, H1 q = none → Q (.ref q) (upd H1 q (.lst xs.reverse))
theorem pe_listRev {X : Cx} {e : Expr} {te : TE} {p p2 pos pos2 : Pos} (hg : Gl X "list") (hm : X.mg "list" = none) (hg2 : Gl X "reversed") (hm2 : X.mg "reversed" = none) (he : PE X e te) (hc : X.calm = true := by rfl)
    (hs : starEach [e] X.env = (false, eval e X.env) :: starEach [] X.env := by rfl)
    (hs2 : starEach [.Call (.Name "reversed" p2) [e] [] pos2] X.env = (false, eval (.Call (.Name "reversed" p2) [e] [] pos2) X.env) :: starEach [] X.env := by rfl) :
    PE X (.Call (.Name "list" p) [.Call (.Name "reversed" p2) [e] [] pos2] [] pos) (tListRev X.K te) := by
  refine ⟨fun pins s σ H Q I h => ?_⟩
  refine Call_ (ld_blt I hg hm boot_list (PyProof.Rows.callWith_type1 (args_cons (Call_ (ld_blt I hg2 hm2 PyProof.Rows.boot_reversed (PyProof.Rows.callWith_type1 (args_cons (thn (he.run pins s σ H _ I h) fun u s1 ⟨v, H1, I1, r1, q1⟩ => args_nil ?_) hs) hs rfl))) hs2) hs2 rfl))
  obtain ⟨a, xs, ev, hq, q⟩ := q1
  subst ev
  obtain rfl : u = Value.ref a := r1
  obtain ⟨its, rv, p', hz⟩ := I1.list hq
  refine call_reversed_list p'.isList (args_nil ?_)
  have k0 : ∀ b o, s1.heap.get? b = some o → (s1.heap.push (revObj a ((its.toArray.size : Int) - 1))).get? b = some o := fun b o e => Heap.get?_push_of_some _ e
  have I2 : Inv X pins σ H1 { s1 with heap := s1.heap.push (revObj a ((its.toArray.size : Int) - 1)) } := I1.kept (t' := s1.toks) k0
  have hl := p'.isList
  obtain ⟨ol, hol, _⟩ := id hl
  have hne : a ≠ s1.heap.objs.size := Nat.ne_of_lt (Heap.lt_size hol)
  have hn : its.toArray.size ≤ sizeLine := by rw [List.size_toArray, ← rv.length]; exact hz
  refine call_list_rev (s := { s1 with heap := s1.heap.push (revObj a ((its.toArray.size : Int) - 1)) }) (I1.ok.hd hc) ⟨_, Heap.get?_push_size _ rfl, rfl, rfl⟩ (hl.push _) hne hn fun h' tk acc c' hk hS' hi => ?_
  have sz : (s1.heap.push (revObj a ((its.toArray.size : Int) - 1))).objs.size = s1.heap.objs.size + 1 := Heap.size_push ..
  have fp := I1.fpOk (H' := H1) (b := s1.heap.objs.size) (Nat.le_refl _) (I1.hok.fresh (Nat.le_refl _))
  have rr := RT.vals_rev rv hi
  have hS2 : h'.get? (s1.heap.objs.size + 1) = some { cls := .type "list", dict := none, data := .seq acc c', slots := #[] } := by
    have z : h'.get? (s1.heap.push (revObj a ((its.toArray.size : Int) - 1))).objs.size = _ := hS'
    rw [sz] at z
    exact z
  have I3 : Inv X pins σ (upd H1 (s1.heap.objs.size + 1) (.lst xs.reverse)) { s1 with heap := h', toks := tk } := by
    refine I1.turnedNew (ch := [s1.heap.objs.size]) (fun b o hb e => hk b o (by simpa using hb) (Heap.get?_push_of_some _ e)) (fun b hb => ?_) (Nat.le_succ _) ?_
    · have e : b = s1.heap.objs.size := by simpa using hb
      subst e
      exact fp
    · exact ⟨by rw [List.length_reverse]; exact hz, acc.toList, c', rr, by rw [Array.toArray_toList]; exact hS2⟩
  refine ⟨.ref (s1.heap.objs.size + 1), _, I3, ?_, q _ (I1.hok.fresh (Nat.le_succ _))⟩
  show Value.ref _ = _
  rw [← sz]
end AT

set_option maxHeartbeats 4000000
namespace AT
open PySem PySem.Spec PyProof.Rows L2
/-! ### how long a shown list is -/
theorem slen (a b : Str) : (a ++ b).length = a.length + b.length := by
  show (a.cps ++ b.cps).size = _
  rw [Array.size_append]
  rfl
theorem textFrom_le {m : Nat} : ∀ (ts : List Str) (k : Nat) (acc : Str), (∀ t ∈ ts, t.length ≤ m) → (textFrom k acc ts).length ≤ acc.length + ts.length * (m + 2)
  | [], k, acc, _ => by show acc.length ≤ _; omega
  | t :: r, k, acc, h => by
    have ih := textFrom_le r (k + 1) (acc ++ (if k > 0 then ", " else "" : String) ++ t) fun x hx => h x (List.mem_cons_of_mem _ hx)
    have h1 := h t (by simp)
    rw [slen, slen] at ih
    have h2 : (Str.ofString (if k > 0 then ", " else "" : String)).length ≤ 2 := by split <;> decide
    rw [List.length_cons, Nat.succ_mul]
    show (textFrom (k + 1) (acc ++ (if k > 0 then ", " else "" : String) ++ t) r).length ≤ _
    omega
theorem listText_le {m : Nat} {ts : List Str} (h : ∀ t ∈ ts, t.length ≤ m) : (listText ts).length ≤ 2 + ts.length * (m + 2) := by
  unfold listText
  have := textFrom_le ts 0 "[" h
  rw [slen]
  have e1 : (Str.ofString "[").length = 1 := by decide
  have e2 : (Str.ofString "]").length = 1 := by decide
  omega
theorem shownAll_map {α : Type} (f : α → PyData) : ∀ l : List α, PyData.shownAll (l.map f) = l.map fun x => (f x).shown
  | [] => by simp [PyData.shownAll]
  | x :: l => by simp only [List.map_cons, PyData.shownAll]; rw [shownAll_map f l]
theorem showableAll_map {α : Type} {f : α → PyData} (l : List α) (h : ∀ x ∈ l, (f x).showable = true) : PyData.showableAll (l.map f) = true := by
  induction l with
  | nil => simp [PyData.showableAll]
  | cons x l ih =>
    simp only [List.map_cons, PyData.showableAll, Bool.and_eq_true]
    exact ⟨h x (by simp), ih fun y hy => h y (List.mem_cons_of_mem _ hy)⟩
/-- data that can be shown -/
structure Shw (d : PyData) (n L : Nat) : Prop where
  sh : d.showable = true
  dp : d.depth ≤ n
  ln : d.shown.length ≤ L
theorem Shw.mono {d : PyData} {n m L M : Nat} (h : Shw d n L) (h1 : n ≤ m) (h2 : L ≤ M) : Shw d m M := ⟨h.sh, Nat.le_trans h.dp h1, Nat.le_trans h.ln h2⟩
theorem Shw.int {i : Int} (h : i.natAbs < 1000) : Shw (.int i) 0 4 := by
  have hs : (PyData.int i).showable = decide (i.natAbs.log2 < 1920) := by simp only [PyData.showable]
  refine ⟨?_, by simp [PyData.depth], ?_⟩
  · rw [hs, decide_eq_true_eq]
    exact Nat.lt_of_le_of_lt (Nat.log2_le_self _) (by omega)
  · have e : (PyData.int i).shown = Str.ofString (toString i) := by simp only [PyData.shown]
    rw [e]
    have h2 := int_text_length_le10 (k := 3) (by decide) (show i.natAbs < 10 ^ 3 by omega)
    rw [PySem.ofString_length]
    omega
theorem Shw.list {ds : List PyData} {n L : Nat} (h : ∀ d ∈ ds, Shw d n L) : Shw (.list ds) (n + 1) (2 + ds.length * (L + 2)) := by
  refine ⟨?_, ?_, ?_⟩
  · have e : (PyData.list ds).showable = PyData.showableAll ds := by simp only [PyData.showable]
    rw [e]
    have := showableAll_map (f := id) ds fun x hx => (h x hx).sh
    rwa [List.map_id] at this
  · have e : (PyData.list ds).depth = PyData.depthAll ds + 1 := by simp only [PyData.depth]
    rw [e]
    have : ∀ l : List PyData, (∀ d ∈ l, Shw d n L) → PyData.depthAll l ≤ n := by
      intro l
      induction l with
      | nil => intro _; simp [PyData.depthAll]
      | cons x l ih =>
        intro hx
        have h1 := (hx x (by simp)).dp
        have h2 := ih fun y hy => hx y (List.mem_cons_of_mem _ hy)
        simp only [PyData.depthAll]
        omega
    have := this ds h
    omega
  · have e : (PyData.list ds).shown = listText (PyData.shownAll ds) := by simp only [PyData.shown]
    rw [e]
    have e2 := shownAll_map id ds
    rw [List.map_id] at e2
    rw [e2]
    have z := listText_le (m := L) (ts := ds.map fun x => (id x).shown) (by
      intro t ht
      obtain ⟨d, hd, rfl⟩ := List.mem_map.mp ht
      exact (h d hd).ln)
    rw [List.length_map] at z
    exact z
theorem Shw.ok {d : PyData} {n L : Nat} (h : Shw d n L) (hn : n ≤ 50) (hL : L ≤ 16777216) : d.showable = true ∧ d.depth ≤ 50 ∧ d.shown.length ≤ sizeLine :=
  ⟨h.sh, Nat.le_trans h.dp hn, by rw [sizeLine_eq]; exact Nat.le_trans h.ln hL⟩
/-! ### data stay -/
mutual
theorem Dd.up {K : PySem.W.Frag} {H H' : Hp} (s : Same H H') : ∀ {v : V} {d : PyData}, Dd K H v d → Dd K H' v d
  | _, _, .non => .non
  | _, _, .bl b => .bl b
  | _, _, .int i => .int i
  | _, _, .str x => .str x
  | _, _, .lst h ha => .lst (Same.sql s h) (DdAll.up s ha)
  | _, _, .tup h ha => .tup (Same.tup s h) (DdAll.up s ha)
  | _, _, .emp h => .emp (s _ _ h)
theorem DdAll.up {K : PySem.W.Frag} {H H' : Hp} (s : Same H H') : ∀ {vs : List V} {ds : List PyData}, DdAll K H vs ds → DdAll K H' vs ds
  | _, _, .nil => .nil
  | _, _, .cons h t => .cons (Dd.up s h) (DdAll.up s t)
end
end AT

set_option maxHeartbeats 4000000
/-! exceptions of the program over KeyError and LookupError -/
namespace AT
open PySem PySem.Spec PyProof.Rows L2 PySem.HandSPX Builtin Builtin.ObjectAttr
/-- what is asked of the classes behind the own ones -/
structure Tl (B BI : String) (bm : List Value) : Prop where
  cB : bm.contains (.type B) = true
  cI : bm.contains (.type BI) = true
  cA : bm.contains (.type "AttributeError") = false
  cN : bm.contains (.type "NameError") = false
  cO : bm.contains (.type "object") = true
  pass : ∀ self, refuseLoop self "__setattr__" bm = pure ()
theorem Tl.cons {B BI : String} {bm : List Value} (h : Tl B BI bm) (C : Addr) : Tl B BI (.ref C :: bm) :=
  ⟨by rw [List.contains_cons, h.cB, Bool.or_true], by rw [List.contains_cons, h.cI, Bool.or_true], by rw [List.contains_cons, h.cA]; rfl, by rw [List.contains_cons, h.cN]; rfl, by rw [List.contains_cons, h.cO, Bool.or_true], fun self => by rw [refuseLoop_ref]; exact h.pass self⟩
/-- an __init__ of a built-in exception -/
structure IniF (BI iid : String) : Prop where
  slot : Slot BI "__init__" iid
  entry : entryFor table iid = some Builtin.«BaseException.__init__»
  split : splitId iid = some (BI, "__init__")
  kind : builtinKind iid = some .slot
  row : Manifest.signature? iid = some ⟨.positional, "*", BI, .self, [⟨"args", .varPos, false⟩]⟩
  noStar : (BI != "*") = true
theorem iniK : IniF "KeyError" "KeyError.__init__" where
  slot := .of (owner := "KeyError") (n := "__init__") (by rw [typeLookup_type, builtinLookup_eq_fast]; kernel_rfl) (by decide +kernel) (by decide +kernel) (by decide +kernel)
    (by first | exact .inl (by decide +kernel) | exact .inr (by decide +kernel)) (by rw [isSubtype_type]; kernel_rfl)
  entry := entryFor_alias (id' := "BaseException.__init__") (by rw [fastTable_eq_tree]; kernel_rfl) (by first | rfl | decide +kernel) (by decide +kernel) (by rw [fastTable_eq_tree]; kernel_rfl)
  split := by kernel_rfl
  kind := by kernel_rfl
  row := by kernel_rfl
  noStar := by decide +kernel
theorem iniL : IniF "LookupError" "LookupError.__init__" := ⟨F.excBase_LookupError.init, F.excBase_LookupError.initEntry, F.excBase_LookupError.initSplit, F.excBase_LookupError.initKind, F.excBase_LookupError.initRow, F.excBase_LookupError.noStar⟩
section
variable {M : Model} {A : Around} {E : Value → Shared → Prop} {h : Heap} {g : Array GenState} {d : Drawn} {t : Nat} {os : OsState}
variable {nm q : Str} {C N : Addr} {bs bm bmB : List Value} {hdct : Bool} {sn : List Str} {sub : List Value} {ab : Bool} {col : Option Bool} {dd : Option Addr} {k0 k1 k2 k3 k5 : Option Value} {B BI nid iid iidB : String}
theorem ck_new (F : ExcBaseFacts B nid iidB bmB) (tl : Tl B BI bm) {us : List Value} {Q : Unit → Shared → Prop} (cl : h.get? C = some (excClassObj nm q C N bs bm hdct sn sub ab col dd k0 k1 k2 k3 k5 nid)) (z : Q () ⟨h, g, d, t, os⟩) :
    wpAny M A (checkBuiltinCall nid ⟨.ref C :: us, []⟩) Q E ⟨h, g, d, t, os⟩ := by
  have c1 := (tl.cons C).cB
  have c2 := F.noStar
  simp only [checkBuiltinCall, F.newKind, F.newSplit, F.newRow]
  repeat (first | refine wpAny_loadPart_at cl ?_ | (refine wpAny_isSubtype_exc cl ?_; rw [c1]) | refine wpAny_staticBase_exc cl ?_ | refine wpAny_madeBy_exc cl ?_ | simp only [bne_self_eq_false, Bool.false_eq_true, if_false] | wp_step)
  exact z
theorem ck_ini (G : IniF BI iid) (tl : Tl B BI bm) {e : Addr} {oe : Obj} {us : List Value} {Q : Unit → Shared → Prop} (cl : h.get? C = some (excClassObj nm q C N bs bm hdct sn sub ab col dd k0 k1 k2 k3 k5 nid)) (he : h.get? e = some oe) (hcls : oe.cls = .ref C)
    (z : Q () ⟨h, g, d, t, os⟩) : wpAny M A (checkBuiltinCall iid ⟨.ref e :: us, []⟩) Q E ⟨h, g, d, t, os⟩ := by
  have c1 := (tl.cons C).cI
  have c2 := G.noStar
  simp only [checkBuiltinCall, G.kind, G.split, G.row]
  repeat (first | (with_reducible refine wpAny_loadPart_at he ?_; rw [hcls]) | with_reducible refine wpAny_loadPart_at cl ?_ | (with_reducible refine wpAny_isSubtype_exc cl ?_; rw [c1]) | wp_step)
  refine wpAny_onRaise ?_
  rw [show ∀ (a b : String) (n : Nat), Bind.check ⟨.positional, "*", BI, .self, [⟨"args", .varPos, false⟩]⟩ a b n (List.map (fun x => x.fst) ({ pos := Value.ref e :: us } : Args).kw) = pure () from fun a b n => check_star_args _ _ _ _ _ _]
  exact wpAny_pure z
end
section
variable {prog : Program} {w : World} {A : Around} {E : Value → Shared → Prop} {R : Result → Shared → Prop} {h : Heap} {g : Array GenState} {d : Drawn} {t : Nat} {os : OsState}
variable {nm q : Str} {C N : Addr} {bs bm bmB : List Value} {hdct : Bool} {sn : List Str} {sub : List Value} {ab : Bool} {col : Option Bool} {dd : Option Addr} {k0 k1 k2 k3 k5 : Option Value} {B BI nid iid iidB : String}
theorem nw_own (F : ExcBaseFacts B nid iidB bmB) (tl : Tl B BI bm) {us : List Value} (cl : h.get? C = some (excClassObj nm q C N bs bm hdct sn sub ab col dd k0 k1 k2 k3 k5 nid))
    (z : R (.ok (.ret (.ref (h.objs.size + 1)))) ⟨(h.push { cls := .type "tuple", data := .seq us.toArray }).push { cls := .ref C, data := .fields #[.ref h.objs.size, .none, .none, .none, .bool false, .none] }, g, d, t, os⟩) (hl : us.length ≤ sizeLine) :
    codeAny (model prog w) A (.builtin nid ⟨.ref C :: us, []⟩) R ⟨h, g, d, t, os⟩ := by
  have ee := F.ends
  have c1 := (tl.cons C).cB
  have c2 := (tl.cons C).cA
  have c3 := (tl.cons C).cN
  refine codeAny_builtinAt F.entry ?_
  unfold Builtin.«BaseException.__new__»
  refine PySem.wpAt_bind ?_
  show PySem.wpAt _ _ _ (stack >>= _) _ _ _
  refine PySem.wpAt_bind (PySem.wpAt_stack fun p below => PySem.wpAt_of_wpAny ?_)
  wp_walk
  refine PySem.wpAt_of_wpAny ?_
  rw [F.owner]
  repeat (first | with_reducible refine wpAny_madeHere_exc F.canon cl ?_ | with_reducible refine wpAny_loadPart_at cl ?_ | (with_reducible refine wpAny_isSubtype_exc cl ?_; first | rw [c1] | rw [c2] | rw [c3]) | wp_step)
  show R _ _
  rw [Heap.size_push]
  exact z
theorem tc_own (F : ExcBaseFacts B nid iidB bmB) (tl : Tl B BI bm) {us : List Value} {fI : Addr} {Q : Fin → Shared → Prop} (cl : h.get? C = some (excClassObj nm q C N bs bm hdct sn sub ab col dd k0 k1 k2 k3 k5 nid))
    (hi : PySem.W.Looks (model prog w) h (typeLookup (.ref C) "__init__") (some (.ref fI))) (hb : ∀ self, PySem.W.Looks (model prog w) h (bindSpecial (.ref fI) self) (.ref fI, [self])) (hl : us.length ≤ sizeLine)
    (z : codeAny (model prog w) A (.call (.ref fI) ⟨.ref (h.objs.size + 1) :: us, []⟩) (fun r s' => match r with | .ok (.ret v) => v = .none ∧ Q (.done (.ret (.ref (h.objs.size + 1)))) s' | .ok _ => False | .error e => E e s')
      ⟨(h.push (PySem.W.kdv_tup us)).push (excO C h.objs.size), g, d, t, os⟩) : wpAny (model prog w) A (Builtin.«type.__call__» ⟨.ref C :: us, []⟩) Q E ⟨h, g, d, t, os⟩ := by
  repeat (first | with_reducible refine wpAny_loadPart_at cl ?_ | with_reducible refine wpAny_madeBy_exc cl ?_ | wp_step)
  refine codeAny_call_builtin_code (Code.quiet_builtin _ F.quiet) (ck_new F tl cl ?_)
  refine nw_own F tl cl ?_ hl
  show wpAny _ _ _ _ _ _
  have kp : ∀ b o, h.get? b = some o → ((h.push (PySem.W.kdv_tup us)).push (excO C h.objs.size)).get? b = some o := fun b o e => Heap.get?_push_of_some _ (Heap.get?_push_of_some _ e)
  have cl2 := kp _ _ cl
  have gt : ((h.push (PySem.W.kdv_tup us)).push (excO C h.objs.size)).get? (h.objs.size + 1) = some (excO C h.objs.size) := by heap_get
  have cc : (Value.ref C :: bm).contains (.ref C) = true := by simp
  have j1 := hi.keeps kp
  have j2 := (hb (.ref (h.objs.size + 1))).keeps kp
  unfold isInstance
  repeat (first | with_reducible refine wpAny_loadPart_at gt ?_ | (with_reducible refine wpAny_isSubtype_exc cl2 ?_; rw [cc]) | wp_step)
  show wpAny _ _ (typeLookup (.ref C) _) _ _ _
  refine j1.at ?_
  refine wpAny_holding (wpAny_bind (j2.at ?_))
  refine wpAny_bind (wpAny_call (codeAny_mono z fun r s' y => ?_))
  rcases r with e | (v | _ | _ | _) <;> first | exact y | exact y.elim | skip
  obtain ⟨rfl, y⟩ := y
  first
    | exact wpAny_pure (wpAny_pure y)
    | (wp_walk; exact y)
theorem cl_own (F : ExcBaseFacts B nid iidB bmB) (tl : Tl B BI bm) {us : List Value} {fI : Addr} (cl : h.get? C = some (excClassObj nm q C N bs bm hdct sn sub ab col dd k0 k1 k2 k3 k5 nid))
    (hi : PySem.W.Looks (model prog w) h (typeLookup (.ref C) "__init__") (some (.ref fI))) (hb : ∀ self, PySem.W.Looks (model prog w) h (bindSpecial (.ref fI) self) (.ref fI, [self])) (hl : us.length ≤ sizeLine)
    (z : codeAny (model prog w) (A.under (.builtin "type.__call__" ⟨.ref C :: us, []⟩)) (.call (.ref fI) ⟨.ref (h.objs.size + 1) :: us, []⟩) (PySem.W.InitBack (h.objs.size + 1) R) ⟨(h.push (PySem.W.kdv_tup us)).push (excO C h.objs.size), g, d, t, os⟩) :
    codeAny (model prog w) A (.call (.ref C) ⟨us, []⟩) R ⟨h, g, d, t, os⟩ := by
  have f1 := tc_lookup
  have f2 := tc_bind (.ref C)
  have ty : (⟨h, g, d, t, os⟩ : Shared).TypeIs (.ref C) "type" := ⟨_, cl, rfl⟩
  refine codeAny_of_tree ?_
  show wpAny _ _ (callAny (.ref C) _) _ _ _
  repeat (any_goals (first | assumption | with_reducible refine wpAny_loadPart_at cl ?_ | wp_step))
  refine ⟨rfl, ?_⟩
  refine codeAny_call_builtin_at (Code.quiet_builtin _ (by decide +kernel)) entry_typeCall (wpAny_check_type_call_sub cl (tc_own F tl cl hi hb hl ?_))
  refine codeAny_mono z fun r s' y => ?_
  rcases r with e | (v | _ | _ | _) <;> exact y
theorem ini_base (G : IniF BI iid) (tl : Tl B BI bm) {e t0 : Addr} {us : List Value} (cl : h.get? C = some (excClassObj nm q C N bs bm hdct sn sub ab col dd k0 k1 k2 k3 k5 nid)) (he : h.get? e = some (excO C t0)) (hl : us.length ≤ sizeLine)
    (z : ∀ h' t1, (∀ b o, b ≠ e → h.get? b = some o → h'.get? b = some o) → h'.get? e = some (excO C t1) → R (.ok (.ret .none)) ⟨h', g, d, t, os⟩) : codeAny (model prog w) A (.call (.builtin iid) ⟨.ref e :: us, []⟩) R ⟨h, g, d, t, os⟩ := by
  refine codeAny_call_builtin G.slot.plain G.entry (ck_ini G tl cl he rfl ?_)
  wp_walk
  refine z _ h.objs.size (fun b o hb ho => ?_) ?_
  · rw [Heap.get?_update_other _ _ (Ne.symm hb)]
    exact Heap.get?_push_of_some _ ho
  · rw [Heap.get?_update_self _ (Heap.get?_push_of_some _ he) rfl]
    rfl
end
section
variable {prog : Program} {w : World} {A : Around} {E : Value → Shared → Prop} {R : Result → Shared → Prop} {hp : Heap} {g : Array GenState} {d : Drawn} {t : Nat} {os : OsState}
theorem osaT {B BI : String} {K : PySem.W.Frag} {name : Str} {tk : Tok} {v : Value} {x C : Addr} {fv : Array Value} {cd : ClassData} (X : K.In hp) (hx : hp.get? x = some { cls := .ref C, data := .fields fv }) (hcd : PySem.W.clsIn K C = some cd) (tl : Tl B BI cd.mro) (hh : cd.hasDict = true)
    (ha : PySem.W.findIn K (.ref C) name = some none)
    (z : ∀ h' tk' dx, (∀ b o, b ≠ x → hp.get? b = some o → h'.get? b = some o) → hp.objs.size ≤ dx → dx ≠ x → h'.get? x = some { cls := .ref C, dict := some dx, data := .fields fv } → h'.Ns1 dx (fun y => if y = name then some v else none) → R (.ok (.ret .none)) ⟨h', g, d, tk', os⟩) :
    codeAny (model prog w) A (.call (.builtin "object.__setattr__") ⟨[.ref x, .str name tk, v], []⟩) R ⟨hp, g, d, t, os⟩ := by
  have J : PySem.W.InstAt hp x { cls := .ref C, data := .fields fv } C none := ⟨hx, rfl, rfl, trivial⟩
  have SF := F.store_object
  have ne : cd.mro.isEmpty = false := by
    cases e : cd.mro with
    | nil => have := tl.cO; rw [e] at this; cases this
    | cons => rfl
  have sz : x ≠ hp.objs.size := Nat.ne_of_lt (Heap.lt_size hx)
  have sub : PySem.W.Looks (model prog w) hp (isInstance (.ref x) (.type "object")) true := J.type.andThen (PySem.W.looks_mroIn X (by unfold PySem.W.mroIn; rw [hcd, Option.bind_some, if_neg (by rw [ne]; decide), tl.cO]))
  refine codeAny_call_builtin SF.slot.plain SF.entry (@PySem.W.check_slot (model prog w) _ _ ⟨hp, g, d, t, os⟩ "object.__setattr__" "object" "__setattr__" (.ref x) [.str name tk, v] [] _ SF.kind SF.split sub (SF.args (.ref x) (.str name tk) v) ?_)
  have l1 : PySem.W.Looks (model prog w) hp (mroOf (.ref C)) cd.mro := (PySem.W.looks_clsIn X hcd).andThen .now
  have l2 : PySem.W.Looks (model prog w) hp (storeTaker? none) none := .now
  have l3 : PySem.W.Looks (model prog w) hp (classData C) cd := PySem.W.looks_clsIn X hcd
  rw [PySem.W.osa_eq, refuse_eq]
  refine wpAny_bind (wpAny_bind (J.type.at (wpAny_bind (l1.at ?_))))
  rw [tl.pass _]
  refine wpAny_pure (wpAny_bind (J.type.at (wpAny_bind ((PySem.W.looks_findIn X ha).at (wpAny_bind (l2.at ?_))))))
  show wpAny _ _ (storeInOwnDict (.ref x) (.ref C) (.str name tk) name v false) _ _ _
  obtain ⟨nm, bs, mro, ns, qn, hd, sn, sb, ab, col, del⟩ := cd
  dsimp only at hh
  subst hh
  unfold storeInOwnDict ownDictForStores
  repeat (first | with_reducible refine store_in_new ?_ ?_ | with_reducible refine wpAny_loadPart_at hx ?_ | with_reducible refine l3.at ?_ | wp_step)
  · exact ⟨_, #[], _, (Heap.get?_update_ne _ _ _ _ sz.symm).trans (Heap.get?_push_at rfl rfl), rfl, fun e he => absurd he (by simp), fun _ => rfl⟩
  · intro h' tk' hn' hs
    have hx2 : (hp.push { cls := .type "dict", data := .dict #[] }).get? x = some { cls := .ref C, data := .fields fv } := Heap.get?_push_of_some _ hx
    refine z h' tk' hp.objs.size (fun b o hb ho => ?_) (Nat.le_refl _) sz.symm ?_ hn'
    · exact (hs.2 b (Nat.ne_of_lt (Heap.lt_size ho))).trans ((Heap.get?_update_ne _ _ _ _ hb).trans (Heap.get?_push_of_some _ ho))
    · exact (hs.2 x sz).trans (Heap.get?_update_self _ hx2 rfl)
end
end AT

set_option maxHeartbeats 4000000
/-! exceptions of the program over KeyError and LookupError: made and raised -/
namespace AT
open PySem PySem.Spec PyProof.Rows L2 PySem.HandSPX
/-! ### the classes behind -/
abbrev keTail : List Value := [.type "KeyError", .type "LookupError", .type "Exception", .type "BaseException", .type "object"]
abbrev leTail : List Value := [.type "LookupError", .type "Exception", .type "BaseException", .type "object"]
theorem tlK : Tl "LookupError" "KeyError" keTail := ⟨by decide +kernel, by decide +kernel, by decide +kernel, by decide +kernel, by decide +kernel, fun self => by
  unfold refuseLoop
  kernel_rfl⟩
theorem tlL : Tl "LookupError" "LookupError" leTail := ⟨by decide +kernel, by decide +kernel, by decide +kernel, by decide +kernel, by decide +kernel, fun self => by
  unfold refuseLoop
  kernel_rfl⟩
def refsT (tl : List Value) : List Value → Bool
  | .ref _ :: r => refsT tl r
  | l => l == tl
theorem refsT_tl {B BI : String} {tl : List Value} (h : Tl B BI tl) : ∀ l : List Value, refsT tl l = true → Tl B BI l
  | [], e => by have z : ([] : List Value) = tl := beq_iff_eq.mp e; rw [z]; exact h
  | .ref c :: r, e => (refsT_tl h r e).cons c
  | .none :: r, e => by have z : (Value.none :: r) = tl := beq_iff_eq.mp e; rw [z]; exact h
  | .ellipsis :: r, e => by have z : (Value.ellipsis :: r) = tl := beq_iff_eq.mp e; rw [z]; exact h
  | .notImplemented :: r, e => by have z : (Value.notImplemented :: r) = tl := beq_iff_eq.mp e; rw [z]; exact h
  | .bool b :: r, e => by have z : (Value.bool b :: r) = tl := beq_iff_eq.mp e; rw [z]; exact h
  | .int a b :: r, e => by have z : (Value.int a b :: r) = tl := beq_iff_eq.mp e; rw [z]; exact h
  | .float a b :: r, e => by have z : (Value.float a b :: r) = tl := beq_iff_eq.mp e; rw [z]; exact h
  | .str a b :: r, e => by have z : (Value.str a b :: r) = tl := beq_iff_eq.mp e; rw [z]; exact h
  | .bytes a b :: r, e => by have z : (Value.bytes a b :: r) = tl := beq_iff_eq.mp e; rw [z]; exact h
  | .type a :: r, e => by have z : (Value.type a :: r) = tl := beq_iff_eq.mp e; rw [z]; exact h
  | .builtin a :: r, e => by have z : (Value.builtin a :: r) = tl := beq_iff_eq.mp e; rw [z]; exact h
/-- what the written part says of the class -/
structure OexG (K : PySem.W.Frag) (BI : String) (C : Addr) : Prop where
  cls : ∃ nm q N bs bm sn sub ab col dd k0 k1 k2 k3 k5, K.lookup C = some (excClassObj nm q C N bs bm true sn sub ab col dd k0 k1 k2 k3 k5 "LookupError.__new__") ∧ Tl "LookupError" BI bm
  sa : PySem.W.findIn K (.ref C) "__setattr__" = some (some (.builtin "object.__setattr__"))
  exC : PySem.W.subIn K (.ref C) (.type "BaseException") = some true
  tyC : PySem.W.typeIn K (.ref C) = some (.type "type")
  kC : PySem.W.keepIn K (.ref C) = true
section
variable {X : Cx} {pins : List (Addr × Obj)} {σ : L2.St} {H : Hp} {s : Shared} {a C dx : Addr} {f : Str} {y : V} {u : Value} {fs : List (Str × V)} {E : Value → Shared → Prop} {A : Around} {BI iid : String}
theorem ostG_new {Q : Unit → Shared → Prop} (T : OexG X.K BI C) (I : Inv X pins σ H s) (e : H a = some (exo a C none)) (hno : PySem.W.findIn X.K (.ref C) f = some none) (ry : RelV y u)
    (h : ∀ dx s', H dx = none → dx ≠ a → Inv X pins σ (upd (upd H dx (exd dx [(f, y)])) a (exo a C (some dx))) s' → Q () s') : wpAny (model X.prog X.w) A (setAttr (.ref a) f u) Q E s := by
  obtain ⟨nm, q, N, bs, bm, sn, sub, ab, col, dd, k0, k1, k2, k3, k5, hC, hbm⟩ := T.cls
  have hcl : PySem.W.clsIn X.K C = some { name := nm, bases := bs, mro := .ref C :: bm, ns := N, qualname := q, hasDict := true, slotNames := sn, subclasses := sub, abstract := ab, collection := col, hasDel := false } := by unfold PySem.W.clsIn; rw [hC] <;> rfl
  obtain ⟨t1, ho⟩ := exo_at I.hok e
  obtain ⟨hp, g, d, t, os⟩ := s
  refine PySem.W.set_plain I.kIn (ox := { cls := .ref C, dict := none, data := .fields #[.ref t1, .none, .none, .none, .bool false, .none] }) (od := none) ⟨ho, rfl, rfl, trivial⟩ T.sa ?_
  refine osaT (B := "LookupError") (BI := BI) I.kIn ho hcl (hbm.cons C) rfl hno (fun h' tk' dx k dn dne hx hn => ?_)
  have hnd : H dx = none := I.hok.fresh dn
  have nd : ∀ {b : Addr} {o : Obj}, hp.get? b = some o → b ≠ dx := fun {b o} q => Nat.ne_of_lt (Nat.lt_of_lt_of_le (Heap.lt_size q) dn)
  have na : ∀ {b : Addr}, H b = none → b ≠ a := fun {b} n z => by
    rw [z, e] at n
    cases n
  have U : Un X.fs [] H (upd (upd H dx (exd dx [(f, y)])) a (exo a C (some dx))) hp h' := {
    keep := fun b o q n _ _ => k b o (na n) q
    slot := fun b o q n _ _ => ⟨o.slots, k b o (na n) q⟩
    free := fun b o q n _ => by rw [upd_ne (na n), upd_ne (nd q)]; exact n
    there := fun b o q _ => by
      by_cases hb : b = a
      · exact ⟨_, by rw [hb]; exact hx⟩
      · exact ⟨o, k b o hb q⟩
    tups := fun b xs q => by rw [upd_ne (at_ne e q exo_tup), upd_ne (ne_of_none q hnd)]; exact q
    frzs := fun b o v q => by rw [upd_ne (at_ne e q exo_frz), upd_ne (ne_of_none q hnd)]; exact q
    tbls := fun b ps q => ⟨#[], by rw [upd_ne (at_ne e q exo_tbl), upd_ne (ne_of_none q hnd), q]; simp⟩ }
  refine h dx _ hnd dne (I.un (t' := tk') U fun b o q => ?_)
  by_cases hb : b = a
  · subst hb
    rw [upd_same] at q
    cases q
    exact exo_ok hx
  · rw [upd_ne hb] at q
    by_cases hd : b = dx
    · subst hd
      rw [upd_same] at q
      cases q
      exact exd_ok hn (relO_put (fs := []) ry fun g => True.intro)
    · rw [upd_ne hd] at q
      exact (I.hok b o q).stay (fun c v hc z => k c v (by
          rcases hc with hc | hc
          · rw [hc]
            exact hb
          · exact at_ne e hc exo_own) z)
        (fun c hc => by rw [upd_ne (at_ne e hc exo_own), upd_ne (ne_of_none hc hnd)]; exact hc) (fun c xs hc => by rw [upd_ne (at_ne e hc exo_tup), upd_ne (ne_of_none hc hnd)]; exact hc)
theorem oinitG_ok {us : List Value} {Q : Value → Shared → Prop} (G : IniF BI iid) (T : OexG X.K BI C) (I : Inv X pins σ H s) (e : H a = some (exo a C none)) (hl : us.length ≤ sizeLine) (h : ∀ s', Inv X pins σ H s' → Q .none s') :
    wpAny (model X.prog X.w) A (call (.builtin iid) (.ref a :: us)) Q E s := by
  obtain ⟨nm, q, N, bs, bm, sn, sub, ab, col, dd, k0, k1, k2, k3, k5, hC, hbm⟩ := T.cls
  obtain ⟨t1, ho⟩ := exo_at I.hok e
  obtain ⟨hp, g, d, t, os⟩ := s
  refine wpAny_call (ini_base G hbm (I.kIn _ _ hC) ho hl fun h' t2 k hx => ?_)
  have J := I.write (t' := t) (x := a) (e := a) (o := exo a C none) (by rw [e]; exact True.intro) (.inl rfl) k ⟨_, hx⟩ (exo_ok hx)
  have eu : upd H a (exo a C none) = H := by
    funext b
    by_cases hb : b = a
    · rw [hb, upd_same, e]
    · rw [upd_ne hb]
  rw [eu] at J
  exact h _ J
end
/-! ### readings and rules -/
def tVeG (K : PySem.W.Frag) (BI : String) (ta : TA) : TE := fun σ H Q => ta σ H fun vs H1 => ∃ (a C : Addr) (ws : List V), vs = .ref a :: ws ∧ ws.length ≤ 1000 ∧ OexG K BI C ∧ H1 a = some (exo a C none) ∧ Q .non H1
def tOsG (K : PySem.W.Frag) (BI : String) (f : Str) (to te : TE) : TS := fun D σ H => te σ H fun y H1 => to σ H1 fun x H2 => ∃ a C : Addr, x = .ref a ∧ OexG K BI C ∧ PySem.W.findIn K (.ref C) f = some none ∧
  H2 a = some (exo a C none) ∧ ∀ dx, H2 dx = none → dx ≠ a → D.nx σ (upd (upd H2 dx (exd dx [(f, y)])) a (exo a C (some dx)))
/-- the base class of the package: B.__init__ is a built-in's -/
structure BaG (K : PySem.W.Frag) (BI iid : String) (B : Str) : Prop where
  rd : PySem.W.readsIn K (He.ga K B) (.type "type") = true
  ga : PySem.W.specialIn K (.ref (He.ga K B)) "__getattribute__" = some (some (.builtin "type.__getattribute__"))
  ini : PySem.W.findCls K (.ref (He.ga K B)) (.type "type") "__init__" = some (.val (.builtin iid))
  glo : PySem.W.nsIn K mainGlobals B = some (some (.ref (He.ga K B)))
  fin : IniF BI iid
  hi : PySem.W.handedIn (.builtin iid) = true
section
variable {X : Cx} {o e : Expr} {es : List Expr} {to te : TE} {ta : TA} {f B : Str} {p p' p1 p2 pos : Pos} {BI iid : String}
theorem psG_ost (ho : PE X o to) (he : PE X e te) (hs : swapsWith e (some (.Attribute o f p')) pos.line X.env = pure false := by rfl) : PS X (.Assign [.Attribute o f p'] e pos) (tOsG X.K BI f to te) := by
  refine ⟨fun pins s σ H D I h => ?_⟩
  refine plainObj_wpAny_Assign_Attribute (thn (he.run pins s σ H _ I h) fun v s1 ⟨y, H1, I1, r1, q1⟩ => thn (ho.run pins s1 σ H1 _ I1 q1) fun u s2 ⟨x, H2, I2, r2, a, C, ex, T, hno, ea, q⟩ => ?_) hs
  subst ex
  obtain rfl : u = Value.ref a := r2
  exact ostG_new T I2 ea hno r1 fun dx s' n ne J => ⟨σ, _, J, q dx n ne⟩
/-- B.__init__(self, ..), B an own class over KeyError or LookupError -/
theorem peG_cinit {look : Sem Bool} (T : BaG X.K BI iid B) (hB : Gl X B) (hmB : X.mg B = some (.ref (He.ga X.K B))) (hA : PA X (e :: es) ta)
    (hev : eval (.Call (.Attribute (.Name B p1) "__init__" p2) (e :: es) [] pos) X.env = (do
      let cv ← eval (.Name B p1) X.env
      standAt p2.atName
      let (fv, frst) ← holding [cv] (getMethod cv "__init__" look)
      callWith pos fv frst (backTo pos (starEach (e :: es) X.env)) (backToKw pos (keywordEach [] X.env))) := by rfl)
    (hdb : (B == ("__debug__" : Str)) = false := by decide)
    (hst : starEach (e :: es) X.env = (false, eval e X.env) :: starEach es X.env := by rfl) (hns : (backTo pos (starEach es X.env)).any (·.1) = false := by rfl) :
    PE X (.Call (.Attribute (.Name B p1) "__init__" p2) (e :: es) [] pos) (tVeG X.K BI ta) := by
  constructor
  intro pins s σ H Q I h
  refine PySem.W.methodCall_KW (ld_glob I hB hmB ?_ hdb) hev
  refine PySem.W.method_cls I.kIn T.ga (PySem.W.cls_value I.kIn T.rd T.ini T.hi ?_)
  show wpAny _ _ (callWith pos (Value.builtin iid) [] (backTo pos (starEach (e :: es) X.env)) []) _ _ _
  refine PyProof.Rows.callWith_method1 (thn (hA.run pos pins _ σ H _ (I.tok _) h) fun vals s1 ⟨vs, H1, I1, r1, a, C, ws, ev, hl, To, ea, q⟩ => ?_) hst hns
  subst ev
  cases r1 with
  | @cons _ v0 _ vr ra rr =>
    obtain rfl : v0 = Value.ref a := ra
    refine oinitG_ok T.fin To I1 ea ?_ fun s' J => ⟨.non, H1, J, rfl, q⟩
    rw [← Paired.length rr, sizeLine_eq]
    omega
theorem pmkG {CX : CXT} {x : Str} {C fI : Addr} {k : Nat} {fd : FuncData} {ps : List Str} {sp : Sp} {ds : List Value} {dvs : List V} (T : OexG X.K BI C) (iC : PySem.W.findIn X.K (.ref C) "__init__" = some (some (.ref fI))) (tI : PySem.W.typeIn X.K (.ref fI) = some (.type "function"))
    (F1 : FnOk X.prog X.w X.K X.mg X.base CX k fI fd ps sp) (hr : Room (k + 1) X.A) (hb : Binds X.K fd ps ds) (hd : Vals dvs ds) (hx : Passes CX X (fun _ _ _ => False)) (hg : Gl X x) (hm : X.mg x = some (.ref C)) (ha : PA X (e :: es) ta)
    (hdb : (x == ("__debug__" : Str)) = false := by decide) (he : starEach (e :: es) X.env = (false, eval e X.env) :: starEach es X.env := by rfl) (hpl : (backTo pos (starEach es X.env)).any (·.1) = false := by rfl) :
    PMk X (.Call (.Name x p) (e :: es) [] pos) (tMkO C sp dvs ta) := by
  intro pins s σ H Q I h
  obtain ⟨nm, q, N, bs, bm, sn, sub, ab, col, dd, k0, k1, k2, k3, k5, hC, hbm⟩ := T.cls
  refine wpAny_Call_Name_kw (ld_glob I hg hm ?_ hdb)
  refine PySem.W.callWith_K (h₀ := X.base) I.ok.mod.kin T.kC (thn (ha.run pos pins s σ H _ I h) fun us s1 ⟨vs, H1, I1, r1, hz, q1⟩ => ⟨I1.kIn, ?_⟩) he hpl
  show wpAny _ _ (call (.ref C) us) _ _ _
  obtain ⟨hp, g, dr, tk, os⟩ := s1
  have hsz : hp.objs.size ≤ hp.objs.size + 1 := Nat.le_succ _
  have hn : H1 (hp.objs.size + 1) = none := I1.hok.fresh hsz
  have hq := q1 (hp.objs.size + 1) hn
  have kk : ∀ b o, hp.get? b = some o → ((hp.push (PySem.W.kdv_tup us)).push (PySem.HandSPX.excO C hp.objs.size)).get? b = some o := fun b o e => Heap.get?_push_of_some _ (Heap.get?_push_of_some _ e)
  have hget : ((hp.push (PySem.W.kdv_tup us)).push (PySem.HandSPX.excO C hp.objs.size)).get? (hp.objs.size + 1) = some (PySem.HandSPX.excO C hp.objs.size) := by heap_get
  have I2 : Inv X pins σ (upd H1 (hp.objs.size + 1) (exo (hp.objs.size + 1) C none)) ⟨(hp.push (PySem.W.kdv_tup us)).push (PySem.HandSPX.excO C hp.objs.size), g, dr, tk, os⟩ :=
    I1.laid (t' := tk) (a := hp.objs.size + 1) (o := exo (hp.objs.size + 1) C none) (h' := (hp.push (PySem.W.kdv_tup us)).push (PySem.HandSPX.excO C hp.objs.size)) kk hsz (exo_ok hget)
  have r2 : Vals (V.ref (hp.objs.size + 1) :: (vs ++ dvs)) (Value.ref (hp.objs.size + 1) :: (us ++ ds)) := .cons rfl (r1.append hd)
  have hl : (Value.ref (hp.objs.size + 1) :: us ++ ds).length = ps.length := by
    have e := r2.length
    rw [F1.len _ _ _ _ hq] at e
    exact e.symm
  have hus : us.length ≤ sizeLine := by
    rw [← Paired.length r1, sizeLine_eq]
    omega
  refine wpAny_call (cl_own F.excBase_LookupError hbm (I1.kIn _ _ hC) (PySem.W.looks_findIn I1.kIn iC) (fun self => PySem.W.bind_fn I1.kIn self tI) hus
    (codeAny_mono (F1.run _ X.stack _ _ ⟨Value.ref (hp.objs.size + 1) :: us, []⟩ (Value.ref (hp.objs.size + 1) :: (us ++ ds)) _ _ (fun _ _ _ => False) (hr.make C us []) (I2.env0.make C us []) (hb _ (Value.ref (hp.objs.size + 1) :: us) I2.kIn hl) r2 hq) fun r s' hq' => ?_))
  cases r with
  | error er => exact hx pins σ _ _ er s' I2 hq'
  | ok fl =>
    cases fl with
    | ret u =>
      obtain ⟨v, H2, os2, bare2, un2, hok2, rv, ev, d, fs, ea, ed, hd1, q2⟩ := hq'
      subst ev
      obtain ⟨h2, g2, d2, t2, os'⟩ := s'
      exact ⟨rv, mk_end (raises_own T.exC T.tyC) I1 hsz kk un2 hok2 os2 bare2 ea ed hd1 q2⟩
    | next => exact False.elim hq'
    | brk => exact False.elim hq'
    | cont => exact False.elim hq'
end
/-- what an exception's own __init__(self, f) promises -/
def spXiG (K : PySem.W.Frag) (BI : String) (C : Addr) (f : Str) : Sp := fun vs H Q _ => ∃ (a : Addr) (v : V), vs = [.ref a, v] ∧ OexG K BI C ∧ PySem.W.findIn K (.ref C) f = some none ∧ H a = some (exo a C none) ∧
  ∀ d, H d = none → d ≠ a → Q .non (upd (upd H d (exd d [(f, v)])) a (exo a C (some d)))
theorem xiG_reading {K : PySem.W.Frag} {BI : String} {C : Addr} {f : Str} {t : Str} {N : List Str} (hN : N = [("self" : Str), f]) (vs : List V) (H : Hp) (Q : VK) (E : XK) (h : spXiG K BI C f vs H Q E) :
    tSeq (tDrop (tVeG K BI (tCons (tVar 0) (tCons (tC (.str t)) tNil)))) (tOsG K BI f (tVar 0) (tVar 1)) { nx := fun _ H' => Q .non H', rt := Q } (start N vs) H := by
  obtain ⟨a, v, rfl, T, no, ha, k⟩ := h
  subst hN
  exact ⟨_, rfl, a, C, [.str t], rfl, (by show 1 ≤ 1000; decide), T, ha, _, rfl, _, rfl, a, C, rfl, T, no, ha, k⟩
abbrev tMkG (K : PySem.W.Frag) (BI : String) (C : Addr) (f : Str) (te : TE) : L2.St → Hp → XK → Prop := tMkO C (spXiG K BI C f) [] (tCons te tNil)
structure MkXG (X : Cx) (BI : String) (x f : Str) : Prop where
  run : ∀ {e : Expr} {te : TE} {p pos : Pos}, Gl X x → PE X e te → starEach [e] X.env = (false, eval e X.env) :: starEach [] X.env → PMk X (.Call (.Name x p) [e] [] pos) (tMkG X.K BI (He.ga X.K x) f te)
theorem mk_atG {K : PySem.W.Frag} {BI : String} {C : Addr} {f : Str} {v : V} {H1 : Hp} {Q : XK} (T : OexG K BI C) (no : PySem.W.findIn K (.ref C) f = some none) (k : ∀ d, H1 d = none → Q (.ref C) (some d) (upd H1 d (.xd [(f, v)]))) :
    [v].length ≤ 1000 ∧ ∀ a, H1 a = none → spXiG K BI C f (.ref a :: ([v] ++ [])) (upd H1 a (exo a C none))
      (fun r H2 => r = .non ∧ ∃ (d : Addr) (fs : List (Str × V)), H2 a = some (exo a C (some d)) ∧ H2 d = some (exd d fs) ∧ H1 d = none ∧ Q (.ref C) (some d) (upd (del H2 a) d (.xd fs))) (fun _ _ _ => False) := by
  refine ⟨(by show 1 ≤ 1000; decide), fun a ha => ⟨a, v, rfl, T, no, upd_same, fun d hd hda => ?_⟩⟩
  have hd1 : H1 d = none := by rw [upd_ne hda] at hd; exact hd
  refine ⟨rfl, d, [(f, v)], upd_same, ?_, hd1, ?_⟩
  · rw [upd_ne hda, upd_same]
  · rw [heap_back ha hda]
    exact k d hd1
/-! ### facts -/
def excGB (K : PySem.W.Frag) (tl : List Value) (C : Addr) : Bool := match K.lookup C with
  | some ⟨.type t, _, .cls cd, sl⟩ => (match cd.mro, sl.toList with
    | .ref D :: bm, [_, _, _, _, some (.builtin n), _] => decide (t = "type") && (decide (D = C) && (decide (n = "LookupError.__new__") && (!cd.hasDel && (cd.hasDict && refsT tl bm))))
    | _, _ => false)
  | _ => false
theorem excGB_ok {K : PySem.W.Frag} {BI : String} {tl : List Value} (htl : Tl "LookupError" BI tl) {C : Addr} (h : excGB K tl C = true) :
    ∃ nm q N bs bm sn sub ab col dd k0 k1 k2 k3 k5, K.lookup C = some (excClassObj nm q C N bs bm true sn sub ab col dd k0 k1 k2 k3 k5 "LookupError.__new__") ∧ Tl "LookupError" BI bm := by
  unfold excGB at h
  split at h
  · rename_i t dd cd sl ho
    split at h
    · rename_i D bm k0 k1 k2 k3 n k5 hm hs
      simp only [Bool.and_eq_true, decide_eq_true_eq, Bool.not_eq_true'] at h
      obtain ⟨rfl, rfl, rfl, hdel, hdic, ht⟩ := h
      obtain ⟨nm, bs, mro, ns, qn, hd, sn, sub, ab, col, del⟩ := cd
      dsimp only at hm hdel hdic
      subst hm hdel hdic
      have hsl : sl = #[k0, k1, k2, k3, some (.builtin "LookupError.__new__"), k5] := by
        obtain ⟨l⟩ := sl
        simp only at hs
        rw [hs]
      subst hsl
      exact ⟨nm, qn, ns, bs, bm, sn, sub, ab, col, dd, k0, k1, k2, k3, k5, ho, refsT_tl htl _ ht⟩
    · cases h
  · cases h
def xcGB (tl : List Value) (x f : Str) (K : PySem.W.Frag) : Bool :=
  excGB K tl (He.ga K x) && (He.eqO (PySem.W.findIn K (.ref (He.ga K x)) "__setattr__") (some (some (.builtin "object.__setattr__"))) &&
  (decide (PySem.W.subIn K (.ref (He.ga K x)) (.type "BaseException") = some true) && (decide (PySem.W.typeIn K (.ref (He.ga K x)) = some (.type "type")) &&
  (PySem.W.keepIn K (.ref (He.ga K x)) && (He.eqO (PySem.W.findIn K (.ref (He.ga K x)) f) (some none) && (xfB K (He.ga K x) &&
  (He.eqO (PySem.W.findIn K (.ref (He.ga K x)) "__init__") (some (some (.ref (He.ma K (He.ga K x) "__init__")))) &&
  decide (PySem.W.typeIn K (.ref (He.ma K (He.ga K x) "__init__")) = some (.type "function"))))))))) 
structure XcG (K : PySem.W.Frag) (BI : String) (x f : Str) : Prop where
  oex : OexG K BI (He.ga K x)
  xf : XfC K (He.ga K x)
  no : PySem.W.findIn K (.ref (He.ga K x)) f = some none
  ini : PySem.W.findIn K (.ref (He.ga K x)) "__init__" = some (some (.ref (He.ma K (He.ga K x) "__init__")))
  tyi : PySem.W.typeIn K (.ref (He.ma K (He.ga K x) "__init__")) = some (.type "function")
theorem xcGB_ok {K : PySem.W.Frag} {BI : String} {tl : List Value} (htl : Tl "LookupError" BI tl) {x f : Str} (h : xcGB tl x f K = true) : XcG K BI x f := by
  obtain ⟨h1, h⟩ := He.ba h
  obtain ⟨h2, h⟩ := He.ba h
  obtain ⟨h3, h⟩ := He.ba h
  obtain ⟨h4, h⟩ := He.ba h
  obtain ⟨h5, h⟩ := He.ba h
  obtain ⟨h6, h⟩ := He.ba h
  obtain ⟨h7, h⟩ := He.ba h
  obtain ⟨h8, h9⟩ := He.ba h
  exact ⟨⟨excGB_ok htl h1, He.eqO_ok h2, of_decide_eq_true h3, of_decide_eq_true h4, h5⟩, xfB_ok h7, He.eqO_ok h6, He.eqO_ok h8, of_decide_eq_true h9⟩
def baGB (iid : String) (B : Str) (K : PySem.W.Frag) : Bool :=
  PySem.W.readsIn K (He.ga K B) (.type "type") && (He.eqO (PySem.W.specialIn K (.ref (He.ga K B)) "__getattribute__") (some (some (.builtin "type.__getattribute__"))) &&
  (valB (PySem.W.findCls K (.ref (He.ga K B)) (.type "type") "__init__") (.builtin iid) &&
  (He.eqO (PySem.W.nsIn K mainGlobals B) (some (some (.ref (He.ga K B)))) && PySem.W.handedIn (.builtin iid))))
theorem baGB_ok {K : PySem.W.Frag} {BI iid : String} (G : IniF BI iid) {B : Str} (h : baGB iid B K = true) : BaG K BI iid B := by
  obtain ⟨h1, h⟩ := He.ba h
  obtain ⟨h2, h⟩ := He.ba h
  obtain ⟨h3, h⟩ := He.ba h
  obtain ⟨h4, h5⟩ := He.ba h
  exact ⟨h1, He.eqO_ok h2, valB_ok h3, He.eqO_ok h4, G, h5⟩
theorem mk_XG {X : Cx} {BI : String} {x f : Str} {k : Nat} (T : XcG X.K BI x f) (hm : X.mg x = some (.ref (He.ga X.K x))) (F : Ok X.prog X.w X.K X.mg X.base k (He.ma X.K (He.ga X.K x) "__init__") [("self" : Str), f] (spXiG X.K BI (He.ga X.K x) f)) (hr : Room (k + 1) X.A) (hdb : (x == ("__debug__" : Str)) = false := by decide) : MkXG X BI x f := by
  obtain ⟨fd, F1, b, kp⟩ := F
  refine ⟨fun {e te p pos} hg he hst => ?_⟩
  exact pmkG T.oex T.ini T.tyi F1 hr b .nil passL hg hm (pa_cons he pa_nil hst) hdb hst rfl
/-- raise X(e) -/
theorem ps_rsG {X : Cx} {BI : String} {x f : Str} {W : WX} {e : Expr} {te : TE} {p pos pos2 : Pos} (hc : X.calm = true) (M : MkXG X BI x f) (tk : Takes X W) (hg : Gl X x) (he : PE X e te) (hst : starEach [e] X.env = (false, eval e X.env) :: starEach [] X.env := by rfl) :
    PS X (.Raise (some (.Call (.Name x p) [e] [] pos)) none pos2) (fun _ σ H => tMkG X.K BI (He.ga X.K x) f te σ H fun cls d H' => W cls d σ H') := ps_raise hc tk (M.run hg he hst)
end AT

set_option maxHeartbeats 4000000
/-! == of lists with own == within, both answers; list.index by own == -/
namespace AT
open PySem PySem.Spec PyProof.Rows L2
section
open MeetsSeq MeetsSeq2 MeetsSeq3 SeqRoads2 GQ
open AutoSeq1 (wpAny_loadPart')
variable {prog : Program} {w : World} {A : Around} {R : Result → Shared → Prop} {E : Value → Shared → Prop}
/-- the two lists stand at each turn; the i-th two are compared with the answer e i -/
def LstJ (prog : Program) (w : World) (A : Around) (E : Value → Shared → Prop) (l b : Addr) (N : Nat) (e : Nat → Bool) (J : Shared → Prop) : Prop :=
  ∀ t, J t → ∃ (us vs : Array Value) (m1 m2 : Nat), t.heap.get? l = some { cls := .type "list", data := .seq us m1 } ∧ t.heap.get? b = some { cls := .type "list", data := .seq vs m2 } ∧ us.size = N ∧ vs.size = N ∧
    ∀ i (h1 : i < us.size) (h2 : i < vs.size), wpAny (model prog w) A.in1 (eqBool us[i] vs[i]) (fun c t' => c = e i ∧ J t') E t
theorem eqc_loop {l b : Addr} {N : Nat} {e : Nat → Bool} {J : Shared → Prop} (hl : LstJ prog w A (fun er t' => R (.error er) t') l b N e J) (done : ∀ t, J t → R (.ok (.ret (.bool ((List.range N).all e)))) t) (k : Nat) :
    ∀ i : Nat, N - i = k → i ≤ N → ((List.range N).take i).all e = true → ∀ t, J t → wpAny (model prog w) A.in1 (Builtin.«list.__eq__.loop» ⟨[.ref l, .ref b, rawInt i, rawInt 2], []⟩) (FinOf prog w A R) (fun er t' => R (.error er) t') t := by
  induction k with
  | zero =>
    intro i hk hi hall t hJ
    obtain ⟨us, vs, m1, m2, g1, g2, z1, z2, _⟩ := hl _ hJ
    have fin := done t hJ
    rw [List.take_of_length_le (by simp; omega)] at hall
    rw [hall] at fin
    obtain ⟨x1, x2, x3, x4, x5⟩ := t
    wp_walk using wpAny_loadPart' g1, wpAny_loadPart' g2
    have n1 : us[((i : Nat) : Int).toNat]? = none := by simp; omega
    have n2 : vs[((i : Nat) : Int).toNat]? = none := by simp; omega
    rw [n1, n2]
    wp_walk using wpAny_loadPart' g1, wpAny_loadPart' g2
    show R (.ok (.ret (.bool (us.size == vs.size)))) _
    rw [z1, z2]
    simpa using fin
  | succ k ih =>
    intro i hk hi hall t hJ
    obtain ⟨us, vs, m1, m2, g1, g2, z1, z2, turn⟩ := hl _ hJ
    have l1 : i < us.size := by omega
    have l2 : i < vs.size := by omega
    have st := turn i l1 l2
    obtain ⟨x1, x2, x3, x4, x5⟩ := t
    wp_walk using wpAny_loadPart' g1, wpAny_loadPart' g2
    have n1 : us[((i : Nat) : Int).toNat]? = some us[i] := by simp [l1]
    have n2 : vs[((i : Nat) : Int).toNat]? = some vs[i] := by simp [l2]
    have nc : ((i : Int) + 1) = ((i + 1 : Nat) : Int) := by omega
    rw [n1, n2]
    refine wpAny_bind (wpAny_mono st (fun c t2 z => ?_) fun _ _ z => z)
    obtain ⟨rfl, hJ2⟩ := z
    cases hc : e i with
    | true =>
      have rest := ih (i + 1) (by omega) (by omega) (by
        rw [List.take_succ, List.all_append, hall, Bool.true_and]
        have : i < N := by omega
        simp [this, hc]) t2 hJ2
      obtain ⟨y1, y2, y3, y4, y5⟩ := t2
      wp_walk
      rw [nc]
      exact ⟨plainId_quiet plain_eq_loop _, codeAny_builtin entry_eq_loop (by
        rw [Around.under_plainId plain_eq_loop _]
        exact rest)⟩
    | false =>
      have fin := done _ hJ2
      have hf : (List.range N).all e = false := by
        rw [List.all_eq_false]
        exact ⟨i, List.mem_range.mpr (by omega), by rw [hc]; decide⟩
      rw [hf] at fin
      obtain ⟨us2, vs2, m3, m4, g3, g4, z3, z4, _⟩ := hl _ hJ2
      obtain ⟨y1, y2, y3, y4, y5⟩ := t2
      have n3 : us2[((i : Nat) : Int).toNat]? = some us2[i] := by simp
      have n4 : vs2[((i : Nat) : Int).toNat]? = some vs2[i] := by simp
      wp_walk using wpAny_loadPart' g3, wpAny_loadPart' g4
      rw [n3, n4]
      wp_walk
      exact fin
theorem eqc {l b : Addr} {N : Nat} {e : Nat → Bool} {J : Shared → Prop} {Q : Value → Shared → Prop} {t : Shared} (hu : A.units < cLine) (hl : LstJ prog w A E l b N e J) (done : ∀ t, J t → Q (.bool ((List.range N).all e)) t) (h0 : J t) :
    wpAny (model prog w) A (richCompare .Eq (.ref l) (.ref b)) Q E t := by
  obtain ⟨us, vs, m1, m2, g1, g2, z1, z2, _⟩ := hl _ h0
  refine wpAny_richCompare_same_room (op := .Eq) ⟨_, g1, rfl⟩ ⟨_, g2, rfl⟩ F.slot_list_eq (call_here F.slot_list_eq ⟨_, g1, rfl⟩ F.entry_list_eq (F.args_list_eq_2 _ _) ?_) hu
  have rest := eqc_loop (A := A) (R := wants (fun v t' => v ≠ .notImplemented ∧ Q v t') E) hl (fun t' z => ⟨(fun x => nomatch x), done t' z⟩) _ 0 rfl (Nat.zero_le _) rfl t h0
  obtain ⟨x1, x2, x3, x4, x5⟩ := t
  have sb := AutoSeq1.sub_list_list
  have hne : ¬ (us.size != vs.size) = true := by simp [z1, z2]
  wp_walk using wpAny_loadPart' g1, wpAny_loadPart' g2
  exact ⟨plainId_quiet plain_eq_loop _, codeAny_builtin entry_eq_loop (by
    rw [Around.under_plainId plain_eq_loop _]
    exact rest)⟩
/-- lists of unlike lengths -/
theorem eqc_len {l b : Addr} {us vs : Array Value} {m1 m2 : Nat} {Q : Value → Shared → Prop} {t : Shared} (hu : A.units < cLine) (g1 : t.heap.get? l = some { cls := .type "list", data := .seq us m1 }) (g2 : t.heap.get? b = some { cls := .type "list", data := .seq vs m2 })
    (hz : us.size ≠ vs.size) (done : Q (.bool false) t) : wpAny (model prog w) A (richCompare .Eq (.ref l) (.ref b)) Q E t := by
  refine wpAny_richCompare_same_room (op := .Eq) ⟨_, g1, rfl⟩ ⟨_, g2, rfl⟩ F.slot_list_eq (call_here F.slot_list_eq ⟨_, g1, rfl⟩ F.entry_list_eq (F.args_list_eq_2 _ _) ?_) hu
  obtain ⟨x1, x2, x3, x4, x5⟩ := t
  have sb := AutoSeq1.sub_list_list
  have hne : (us.size != vs.size) = true := by simp [hz]
  wp_walk using wpAny_loadPart' g1, wpAny_loadPart' g2
  exact ⟨(fun x => nomatch x), done⟩
/-- l.index(x): each item is asked with the answer e i -/
def LstX (prog : Program) (w : World) (A : Around) (E : Value → Shared → Prop) (l : Addr) (x : Value) (N : Nat) (e : Nat → Bool) (J : Shared → Prop) : Prop :=
  ∀ t, J t → ∃ (us : Array Value) (m1 : Nat), t.heap.get? l = some { cls := .type "list", data := .seq us m1 } ∧ us.size = N ∧ ∀ i (h1 : i < us.size), wpAny (model prog w) A.in1 (eqBool us[i] x) (fun c t' => c = e i ∧ J t') E t
theorem ixc_loop {l : Addr} {x : Value} {N j : Nat} {e : Nat → Bool} {J : Shared → Prop} {top : Int} (hl : LstX prog w A (fun er t' => R (.error er) t') l x N e J) (hj : j < N) (htop : (j : Int) < top) (yes : e j = true)
    (done : ∀ t, J t → R (.ok (.ret (.int j t.toks))) { t with toks := t.toks + 1 }) (k : Nat) :
    ∀ i : Nat, j - i = k → i ≤ j → (∀ m, i ≤ m → m < j → e m = false) → ∀ t, J t → wpAny (model prog w) A.in1 (Builtin.«list.index.loop» ⟨[.ref l, x, rawInt i, rawInt top], []⟩) (FinOf prog w A R) (fun er t' => R (.error er) t') t := by
  induction k with
  | zero =>
    intro i hk hi no t hJ
    obtain rfl : i = j := by omega
    obtain ⟨us, m1, g1, z1, turn⟩ := hl _ hJ
    have st := turn i (by omega)
    obtain ⟨x1, x2, x3, x4, x5⟩ := t
    wp_walk using wpAny_loadPart' g1
    have n1 : (if (i : Int) < top then us[((i : Nat) : Int).toNat]? else none) = some us[i] := by simp [htop]
    rw [n1]
    refine wpAny_bind (wpAny_mono st (fun c t2 z => ?_) fun _ _ z => z)
    obtain ⟨rfl, hJ2⟩ := z
    rw [yes]
    have fin := done _ hJ2
    obtain ⟨y1, y2, y3, y4, y5⟩ := t2
    wp_walk
    exact fin
  | succ k ih =>
    intro i hk hi no t hJ
    obtain ⟨us, m1, g1, z1, turn⟩ := hl _ hJ
    have st := turn i (by omega)
    have lt : (i : Int) < top := by omega
    obtain ⟨x1, x2, x3, x4, x5⟩ := t
    wp_walk using wpAny_loadPart' g1
    have n1 : (if (i : Int) < top then us[((i : Nat) : Int).toNat]? else none) = some us[i] := by simp [lt]
    have nc : ((i : Int) + 1) = ((i + 1 : Nat) : Int) := by omega
    rw [n1]
    refine wpAny_bind (wpAny_mono st (fun c t2 z => ?_) fun _ _ z => z)
    obtain ⟨rfl, hJ2⟩ := z
    rw [no i (Nat.le_refl _) (by omega)]
    have rest := ih (i + 1) (by omega) (by omega) (fun m h1 h2 => no m (by omega) h2) t2 hJ2
    obtain ⟨y1, y2, y3, y4, y5⟩ := t2
    wp_walk
    rw [nc]
    exact ⟨plainId_quiet plain_index_loop _, codeAny_builtin entry_index_loop (by
      rw [Around.under_plainId plain_index_loop _]
      exact rest)⟩
theorem ixc {l : Addr} {x : Value} {N j : Nat} {e : Nat → Bool} {J : Shared → Prop} {Q : Value → Shared → Prop} {t : Shared} (hl : LstX prog w A E l x N e J) (hj : j < N) (hs : (j : Int) < 2 ^ 63 - 1) (yes : e j = true) (no : ∀ m, m < j → e m = false)
    (done : ∀ t, J t → Q (.int j t.toks) { t with toks := t.toks + 1 }) (h0 : J t) : wpAny (model prog w) A (call (.builtin "list.index") [.ref l, x]) Q E t := by
  obtain ⟨us, m1, g1, z1, _⟩ := hl _ h0
  refine call_here F.slot_list_index ⟨_, g1, rfl⟩ F.entry_list_index (F.args_list_index_2 _ _) ?_
  have rest := ixc_loop (A := A) (R := wants Q E) (top := 2 ^ 63 - 1) hl hj hs yes (fun t' z => done t' z) _ 0 rfl (Nat.zero_le _) (fun m _ h2 => no m h2) t h0
  obtain ⟨x1, x2, x3, x4, x5⟩ := t
  wp_walk using wpAny_loadPart' g1
  have a1 : ((fun i : Int => if i < 0 then max 0 (i + (us.size : Int)) else i) ((none : Option Int).getD 0)) = ((0 : Nat) : Int) := by simp
  have a2 : ((fun i : Int => if i < 0 then max 0 (i + (us.size : Int)) else i) ((none : Option Int).getD (2 ^ 63 - 1))) = 2 ^ 63 - 1 := by simp
  rw [a1, a2]
  exact ⟨plainId_quiet plain_index_loop _, codeAny_builtin entry_index_loop (by
    rw [Around.under_plainId plain_index_loop _]
    exact rest)⟩
end
section
variable {X : Cx} {n : Nat} {D : Cmp}
def CLst (D : Cmp) : Cmp := fun x y H b => ∃ p q xs ys, x = .ref p ∧ y = .ref q ∧ H p = some (.lst xs) ∧ H q = some (.lst ys) ∧ ((xs.length ≠ ys.length ∧ b = false) ∨ ∃ e, xs.length = ys.length ∧ Each D xs ys H e ∧ b = (List.range xs.length).all e)
theorem rcB_lst (h : EqB X n D) : RcB X (n + 1) (CLst D) := by
  intro A pins s σ H x y u v b sb I rx ry d
  obtain ⟨p, q, xs, ys, rfl, rfl, hp, hq, hd⟩ := d
  cases rx
  cases ry
  rcases hd with ⟨hne, rfl⟩ | ⟨e, hlen, he, rfl⟩
  · obtain ⟨z, its, k1, r1, e1⟩ := I.hok p _ hp
    obtain ⟨z2, its2, k2, r2, e2⟩ := I.hok q _ hq
    exact eqc_len (us := its.toArray) (vs := its2.toArray) sb.room.units0 e1 e2 (by rw [List.size_toArray, List.size_toArray, ← r1.length, ← r2.length]; exact hne) ⟨rfl, I⟩
  · refine eqc (N := xs.length) (e := e) (J := fun t => Inv X pins σ H t) sb.room.units0 (fun t It => ?_) (fun t It => ⟨rfl, It⟩) I
    obtain ⟨z, its, k1, r1, e1⟩ := It.hok p _ hp
    obtain ⟨z2, its2, k2, r2, e2⟩ := It.hok q _ hq
    refine ⟨its.toArray, its2.toArray, k1, k2, e1, e2, by rw [List.size_toArray, ← r1.length], by rw [List.size_toArray, ← r2.length, ← hlen], fun i h1 h2 => ?_⟩
    rw [List.size_toArray] at h1 h2
    have g1 : i < xs.length := by rw [r1.length]; exact h1
    have g2 : i < ys.length := by rw [r2.length]; exact h2
    obtain ⟨u1, a1, b1⟩ := r1.get (List.getElem?_eq_getElem g1)
    obtain ⟨u2, a2, b2⟩ := r2.get (List.getElem?_eq_getElem g2)
    rw [List.getElem?_eq_getElem h1] at a1
    rw [List.getElem?_eq_getElem h2] at a2
    cases a1
    cases a2
    exact h A.in1 pins t σ H _ _ _ _ _ sb.in1 It b1 b2 (he i _ _ (List.getElem?_eq_getElem g1) (List.getElem?_eq_getElem g2))
/-- l.index(y) by own == -/
def rIndexB (D : Cmp) : V → List V → Hp → VK → Prop := fun x xs H Q => ∃ (a : Addr) (y : V) (its : List V) (e : Nat → Bool) (j : Nat), x = V.ref a ∧ xs = [y] ∧ H a = some (.lst its) ∧ (∀ (i : Nat) z, its[i]? = some z → D z y H (e i)) ∧ j < its.length ∧ its.length < sizeLine ∧ e j = true ∧ (∀ m, m < j → e m = false) ∧ Q (.int (j : Nat)) H
theorem mt_indexB (h : EqB X n D) (hr : Room (n + 1) X.A) : MtR X "list.index" (rIndexB D) := by
  intro pins s σ H x xs v us Q I rx rxs hq
  obtain ⟨a, y, its, e, j, rfl, rfl, ha, he, hj, hz, yes, no, k⟩ := hq
  cases rx
  cases rxs with
  | cons ry rt =>
    rename_i uy ut
    cases rt
    have sb : Sub X (n + 1) X.A := ⟨hr, rfl⟩
    have hsl : sizeLine = 16777216 := sizeLine_eq
    refine ixc (N := its.length) (e := e) (J := fun t => Inv X pins σ H t) (fun t It => ?_) hj (by omega) yes no (fun t It => ⟨.int j, H, It.tok _, ⟨_, rfl⟩, k⟩) I
    obtain ⟨z, vs, k1, r1, e1⟩ := It.hok a _ ha
    refine ⟨vs.toArray, k1, e1, by rw [List.size_toArray, ← r1.length], fun i h1 => ?_⟩
    rw [List.size_toArray] at h1
    have g1 : i < its.length := by rw [r1.length]; exact h1
    obtain ⟨u1, a1, b1⟩ := r1.get (List.getElem?_eq_getElem g1)
    rw [List.getElem?_eq_getElem h1] at a1
    cases a1
    exact h X.A.in1 pins t σ H _ _ _ _ _ sb.in1 It b1 ry (he i _ (List.getElem?_eq_getElem g1))
end
end AT

set_option maxHeartbeats 4000000
/-! the head's run, its looks in parts (each part one check of its own: less memory) -/
namespace AT
open PySem PySem.W PySem.Calls PySem.Spec PyProof.Rows L2
/-! what is looked at: the objects that the module's names reach, found with a mask of what was seen -/
def bitHas (m a : Nat) : Bool := match Nat.land (Nat.shiftRight m a) 1 with
  | 0 => false
  | _ + 1 => true
def takeR : List Addr → Nat → List Addr → (Nat → List Addr → List Addr) → List Addr
  | [], m, acc, k => k m acc
  | a :: r, m, acc, k => match bitHas m a with
    | true => takeR r m acc k
    | false => HandSHeadRun.frNat (Nat.lor m (Nat.shiftLeft 1 a)) fun m' => takeR r m' (a :: acc) k
def takeF (g : Addr → Option Obj) : List Addr → Nat → List Addr → (Nat → List Addr → List Addr) → List Addr
  | [], m, acc, k => k m acc
  | a :: r, m, acc, k => match g a with
    | some o => takeR (He.refsD o) m acc fun m' acc' => takeF g r m' acc' k
    | none => takeF g r m acc k
def bfsB (g : Addr → Option Obj) : Nat → Nat → List Addr → List Addr
  | 0, _, front => front
  | n + 1, m, front => front ++ takeF g front m [] fun m' new => bfsB g n m' new
def asB (g : Addr → Option Obj) (n : Nat) : List Addr := bfsB g n (Nat.lor (Nat.shiftLeft 1 mainGlobals) (Nat.shiftLeft 1 cStatics)) [mainGlobals, cStatics]
def obsBG (n : Nat) (fn : List FD) (ex : Ex) (g : Addr → Option Obj) : AlA := obsA fn ex (He.frG g (sysModules :: asB g n))
def hookB (n : Nat) (fn : List FD) (ex : Ex) : PySem.W.Hook where
  α := AlA
  obs := fun s => obsBG n fn ex s.heap.get?
  val := fun _ => valA fn
  says := fun _ h => ∃ K : PySem.W.Frag, K.In h ∧ SaysA fn ex K
  of := fun _ _ e => ⟨_, He.frG_in, e⟩
  keeps := fun _ _ _ ⟨K, hK, c⟩ k => ⟨K, PySem.W.Frag.In.keeps hK k, c⟩
theorem obsBG_eq {n : Nat} {fn : List FD} {ex : Ex} {g : Addr → Option Obj} {s : Shared} (h : ∀ a, g a = s.heap.get? a) : obsBG n fn ex g = (hookB n fn ex).obs s := by
  have q : g = s.heap.get? := funext h
  subst q
  rfl
noncomputable abbrev KofT (n : Nat) (s : PySem.W.SharedT) : PySem.W.Frag := He.frG (HandSHeadRun.getT s) (sysModules :: asB (HandSHeadRun.getT s) n)
/-- the run of the top -/
noncomputable abbrev runE (r : PySem.W.OpenRow) (M : Nat) (w : World) (os : OsState) : Option PySem.W.SharedT := HandSHeadRun.endF (HandSHeadRun.stepQ (HandSHeadRun.denQ HandSHeadRun.tabQ) r.prog w) M r.prog w os
theorem all_chunks {α : Type} {p : α → Bool} {c : Nat} : ∀ {m : Nat} {l : List α}, l.length ≤ m * c → (∀ k, k < m → ((l.drop (k * c)).take c).all p = true) → l.all p = true
  | 0, l, hl, _ => by
    have : l = [] := List.length_eq_zero_iff.mp (by omega)
    rw [this]
    rfl
  | m + 1, l, hl, h => by
    have h0 := h 0 (by omega)
    rw [Nat.zero_mul, List.drop_zero] at h0
    have ih := all_chunks (p := p) (c := c) (m := m) (l := l.drop c) (by rw [List.length_drop, Nat.succ_mul] at *; omega) fun k hk => by
      have z := h (k + 1) (by omega)
      rw [Nat.succ_mul, Nat.add_comm, ← List.drop_drop] at z
      exact z
    rw [← List.take_append_drop c l, List.all_append, h0, ih]
    rfl
theorem map_chunks {α β : Type} {f g : α → β} {c : Nat} : ∀ {m : Nat} {l : List α}, l.length ≤ m * c → (∀ k, k < m → ((l.drop (k * c)).take c).map f = ((l.drop (k * c)).take c).map g) → l.map f = l.map g
  | 0, l, hl, _ => by
    have : l = [] := List.length_eq_zero_iff.mp (by omega)
    rw [this]
    rfl
  | m + 1, l, hl, h => by
    have h0 := h 0 (by omega)
    rw [Nat.zero_mul, List.drop_zero] at h0
    have ih := map_chunks (f := f) (g := g) (c := c) (m := m) (l := l.drop c) (by rw [List.length_drop, Nat.succ_mul] at *; omega) fun k hk => by
      have z := h (k + 1) (by omega)
      rw [Nat.succ_mul, Nat.add_comm, ← List.drop_drop] at z
      exact z
    rw [← List.take_append_drop c l, List.map_append, List.map_append, h0, ih]
theorem run_parts {r : PySem.W.OpenRow} {q : Program} {n M m c m' c' : Nat} {fn : List FD} {ex : Ex} {loose : List PySem.Str} {w : World}
    (h1 : ∀ os, (runE r M w os).map (fun s => HandSHeadRun.looksF r.prog (boot_heap w.params) s.abs) = some true)
    (h2 : ∀ os, (runE r M w os).map (fun s => HandSHeadRun.seenQ q loose (importedModules r.prog.main.body) (fun s => xlAt q [] s && recOk r.toRowW.records s) s.abs) = some (openGood q loose))
    (h3 : ∀ k, k < m → ∀ os, (runE r M w os).map (fun s => ((ex.drop (k * c)).take c).all (fun e => e (KofT n s))) = some true)
    (h4 : ∀ k, k < m' → ∀ os, (runE r M w os).map (fun s => (((fn.drop (k * c')).take c').all (fun d => d.ok (KofT n s)), ((fn.drop (k * c')).take c').map fun d => fobs (KofT n s) (d.loc (KofT n s)))) = some (true, ((fn.drop (k * c')).take c').map FD.val))
    (le : ex.length ≤ m * c) (lf : fn.length ≤ m' * c') : HandSHeadRun.RunEq r q (hookB n fn ex) (fun s => obsBG n fn ex (HandSHeadRun.getT s)) M loose w := by
  intro os
  have a1 := h1 os
  have a2 := h2 os
  have a3 := fun k hk => h3 k hk os
  have a4 := fun k hk => h4 k hk os
  show (runE r M w os).map _ = _
  cases e : runE r M w os with
  | none => rw [e] at a1; cases a1
  | some s =>
    rw [e] at a1 a2
    simp only [e] at a3 a4
    simp only [Option.map_some, Option.some.injEq] at a1 a2 a3 a4 ⊢
    have b1 : ex.all (fun e => e (KofT n s)) = true := all_chunks le a3
    have b2 : fn.all (fun d => d.ok (KofT n s)) = true := all_chunks lf fun k hk => (Prod.mk.inj (a4 k hk)).1
    have b3 : (fn.map fun d => fobs (KofT n s) (d.loc (KofT n s))) = fn.map FD.val := map_chunks lf fun k hk => (Prod.mk.inj (a4 k hk)).2
    refine Prod.ext a1 (Prod.ext a2 ?_)
    show (ex.all (fun e => e (KofT n s)) && fn.all (fun d => d.ok (KofT n s)), fn.map fun d => fobs (KofT n s) (d.loc (KofT n s))) = (true, fn.map FD.val)
    rw [b1, b2, b3]
    rfl
end AT

set_option maxHeartbeats 4000000
namespace AT
open PySem PySem.Spec PyProof.Rows L2
open AutoSeq1 (wpAny_loadPart')
/-! ### len(x) by an own __len__; == by an own __eq__ that answers NotImplemented -/
def rLenO (C : Addr) (sp : Sp) (E : XK) : List V → Hp → VK → Prop := fun xs H Q => ∃ p d fs, xs = [.ref p] ∧ H p = some (.ins C d fs) ∧ sp [.ref p] H (fun v H' => ∃ n : Nat, v = .int n ∧ n < 1000000 ∧ Q (.int n) H') E
section
variable {X : Cx} {C f : Addr} {k : Nat} {ps : List Str} {sp : Sp} {E : XK}
theorem call_lenO (M : Meth X.K C "__len__" f) (F : Ok X.prog X.w X.K X.mg X.base k f ps sp) (hr : Room (k + 1) X.A) (hx : Passes (L2.CX X.prog X.w) X E) : CallR X (.builtin "len") (rLenO C sp E) := by
  intro pins s σ H xs us Q I r h
  obtain ⟨p, d, fs, rfl, hp, hsp⟩ := h
  obtain ⟨u, rfl, rx⟩ := vals1 r
  cases rx
  obtain ⟨fd, F1, b, kp⟩ := F
  obtain ⟨mA, J, _⟩ := ins_get I.hok hp
  obtain ⟨od, J, _⟩ := J.look
  obtain ⟨m, hF⟩ := I.fr
  refine PySem.W.len_K hF I.ok.mod.kin J M.at_ M.fn (wpAny_mono (run_in (A := X.A.in1) (us := [.ref p]) (vs := [.ref p]) rfl F1 hr.in1 b hx I (.cons rfl .nil) hsp) (fun v s' z => ?_) fun _ _ z => z)
  obtain ⟨x', H', I', r', n, rfl, hn, q⟩ := z
  obtain ⟨t, rfl⟩ := r'
  exact ⟨⟨by omega, by omega⟩, .int n, H', I'.tok _, ⟨_, rfl⟩, q⟩
/-- a body that ends with NotImplemented -/
structure PN (X : Cx) (ss : List Stmt) (t : L2.St → Hp → (Hp → Prop) → Prop) : Prop where
  run : ∀ (pins : List (Addr × Obj)) (s : Shared) (σ : L2.St) (H : Hp) (Q : Hp → Prop), Inv X pins σ H s → t σ H Q → wpAny (model X.prog X.w) X.A (execs ss X.env) (fun fl s' => fl = .ret .notImplemented ∧ ∃ σ' H', Inv X pins σ' H' s' ∧ Q H') X.xe s
theorem pn_if {c : Expr} {tc : L2.TT} {rest : List Stmt} {p p1 pos : Pos} (hc : PT X c tc) (hg : Gl X "NotImplemented") (hm : X.mg "NotImplemented" = none) (hb : bootBuiltins "NotImplemented" = some .notImplemented) :
    PN X (.If c [.Return (some (.Name "NotImplemented" p)) p1] [] pos :: rest) (fun σ H Q => tc σ H fun b H1 => b = true ∧ Q H1) := by
  refine ⟨fun pins s σ H Q I h => ?_⟩
  refine wpAny_execs_cons (wpAny_If (thn (hc.run pins s σ H _ I h) fun d s1 ⟨H1, I1, e, q1⟩ => ?_))
  subst e
  exact wpAny_execs_cons (wpAny_Return_some (ld_blt I1 hg hm hb ⟨rfl, σ, H1, I1, q1⟩))
end
abbrev SpN := List V → Hp → (Hp → Prop) → Prop
def CRN (P : Program) (w : World) (outer : List Env) (H : Hp) (s : Shared) (Q : Hp → Prop) (r : Result) (s' : Shared) : Prop :=
  match r with
  | .ok (.ret u) => u = .notImplemented ∧ CE outer P w H s (fun _ H' => Q H') .none s'
  | .ok _ => False
  | .error e => L2.CX P w outer H s E0 e s'
def OkN (P : Program) (w : World) (K : PySem.W.Frag) (mg : Str → Option Value) (base : Heap) (k : Nat) (f : Addr) (ps : List Str) (sp : SpN) : Prop :=
  ∃ fd, (∀ vs H Q, sp vs H Q → vs.length = ps.length) ∧ (∀ (A : Around) (outer : List Env) (s : Shared) (H : Hp) (args : Args) (us : List Value) (vs : List V) (Q : Hp → Prop), Room k A → Env0 P w K mg base A outer s H → BindsTo s fd args (ps.zip us) → Vals vs us → sp vs H Q →
    codeAny (model P w) A (.call (.ref f) args) (CRN P w outer H s Q) s) ∧ Binds K fd ps []
theorem mk_okN {P : Program} {w : World} {K : PySem.W.Frag} {mg : Str → Option Value} {base : Heap} {x qual : Str} {st : Stmt} {kws : List (Str × V)} {f : Addr} {N ps : List Str} {k : Nat} {sp : SpN}
    (F : ∃ fd, FunD K x qual (defArgs st) (defBody st) (defScope st) [] kws f fd) (S : FnScope N ps (defScope st))
    (hb : ∀ (kV doc pm : Value) (an : Option Addr) (cdv ct : Value) (us : List Value), us.length = ps.length → bindArgs (PySem.W.fnOf x qual (defArgs st) (defBody st) (defScope st) .none kV doc pm an cdv ct) ⟨us, []⟩ = pure (ps.zip us))
    (len : ∀ vs H Q, sp vs H Q → vs.length = ps.length)
    (body : ∀ (cdv : Value) (A : Around) (outer : List Env) (s : Shared) (H : Hp) (vs : List V) (Q : Hp → Prop), Room k (A.deeper (envOfC qual (defScope st) s.heap.objs.size f cdv)) → sp vs H Q →
      ∃ t, PN (cxOf (L2.CX P w) P w K mg base N qual (defScope st) f cdv A outer s H E0) (defBody st) t ∧ t (start N vs) H Q) : OkN P w K mg base (k + 1) f ps sp := by
  obtain ⟨fd, F⟩ := F
  have F0 := F
  obtain ⟨oc, od, dV, kV, doc, pm, an, cdv, ct, osl, rfl, lk, hcd, _, _⟩ := F.ex
  refine ⟨_, len, fun A outer s H args us vs Q hr e0 hbd rv hsp => ?_, F0.bindsN hb⟩
  have KI : K.In s.heap := e0.mod.kin.keeps fun b o z => (e0.bs b o z).1
  have nl : s.heap.NoLimit := e0.mod.nolimit.keeps fun b o z => (e0.bs b o z).1
  have kinds : ∀ y ∈ ps.zip us, (defScope st).names.lookup y.1 = some .local ∨ ((defScope st).names.lookup y.1 = some .cell ∧ ((cellsFrom (s.heap.objs.size + 1) (defScope st).names []).lookup y.1).isSome = true) := by
    rintro ⟨n, v⟩ hy
    exact (S.par n (List.of_mem_zip hy).1).imp id fun q => ⟨q, PySem.W.cellsFrom_some _ _ _ (.inl q)⟩
  refine codeAny_call_function hr.depth (KI _ _ lk) rfl S.co S.gen rfl (PySem.W.codeRec_of KI hcd) (hbd _ _ _ _ ?_)
  refine wpAny_newFunctionEnv_cells S.kind kinds fun env he s1 ic => ?_
  subst he
  refine ⟨nl.keeps ic.toInCall.keep, codeAny_func ?_⟩
  obtain ⟨t, ht, hq⟩ := body cdv A outer s H vs Q (hr.deeper _) hsp
  have I1 := inv_start (CX := L2.CX P w) (E := E0) S hr.hd e0 (len _ _ _ hsp) rv ic
  refine wpAny_mono (ht.run [] s1 (start N vs) H _ I1 hq) (fun fl s' hfl => ?_) fun _ _ z => z
  obtain ⟨rfl, _, H', J, q⟩ := hfl
  exact ⟨rfl, .non, H', J.os, J.bare, J.base, J.hok, rfl, q⟩
section
variable {X : Cx} {C f : Addr} {k : Nat} {ps : List Str} {sp : SpN}
theorem run_inN {A : Around} {pins : List (Addr × Obj)} {σ : L2.St} {H : Hp} {s : Shared} {Q : Hp → Prop} {us : List Value} {vs : List V} (hA : A.frames = X.A.frames) (F : OkN X.prog X.w X.K X.mg X.base k f ps sp) (hr : Room k A)
    (hx : Passes (L2.CX X.prog X.w) X E0) (I : Inv X pins σ H s) (r : Vals vs us) (h : sp vs H Q) : wpAny (model X.prog X.w) A (call (.ref f) us) (fun u s' => u = .notImplemented ∧ ∃ H', Inv X pins σ H' s' ∧ Q H') X.xe s := by
  obtain ⟨fd, len, run, hb⟩ := F
  have hl : us.length = ps.length := by rw [← r.length]; exact len _ _ _ h
  have e := I.env0
  have e0 : Env0 X.prog X.w X.K X.mg X.base A X.stack s H := ⟨by rw [hA]; exact e.frames, e.mod, e.bs, e.bsz, e.funs, e.frf, e.hok, e.bare⟩
  have b := hb s us I.kIn (by simpa using hl)
  rw [List.append_nil] at b
  refine wpAny_call (codeAny_mono (run A X.stack s H ⟨us, []⟩ us vs Q hr e0 b r h) fun res s' hq => ?_)
  cases res with
  | error er => exact hx pins σ H s er s' I hq
  | ok fl =>
    cases fl with
    | ret u =>
      obtain ⟨rfl, hq⟩ := hq
      obtain ⟨v, H', I', _, q⟩ := I.after hq
      exact ⟨rfl, H', I', q⟩
    | _ => exact False.elim hq
/-- a list's own == declines what is no list -/
theorem list_declinesI {prog : Program} {w : World} {A : Around} {E : Value → Shared → Prop} {s : Shared} {l p : Addr} {T : Value} {Q : Value → Shared → Prop} (hl : s.TypeIs (.ref l) "list") (ty : PySem.W.Looks (model prog w) s.heap (typeOf (.ref p)) T)
    (sub : PySem.W.Looks (model prog w) s.heap (isSubtype T (.type "list")) false) (q : Q .notImplemented s) : wpAny (model prog w) A (call (.builtin "list.__eq__") [.ref l, .ref p]) Q E s := by
  refine wpAny_call_entry PySem.F.slot_list_eq hl PySem.F.entry_list_eq ?_ (PySem.F.args_list_eq_2 _ _)
  obtain ⟨hp, g, d, tk, os⟩ := s
  have isi : ∀ {A : Around} {E : Value → Shared → Prop} {R : Bool → Shared → Prop}, R false ⟨hp, g, d, tk, os⟩ → wpAny (model prog w) A (isInstance (.ref p) (.type "list")) R E ⟨hp, g, d, tk, os⟩ := fun h => wpAny_bind (ty.here (sub.here h))
  wp_walk using isi
  exact ⟨_, rfl, q⟩
/-- x == y where x's own __eq__ declines and y is a list -/
def rEqN (C : Addr) (sp : SpN) : R2 := fun x y H Q => ∃ p d fs l xs, x = .ref p ∧ y = .ref l ∧ H p = some (.ins C d fs) ∧ H l = some (.lst xs) ∧ sp [.ref p, .ref l] H (fun H' => H' = H ∧ Q (.bl false) H)
theorem op_eqN (O : EqC X.K C f) (hk : PySem.W.kitOne X.K (.ref C) (.type "list") = some false) (F : OkN X.prog X.w X.K X.mg X.base k f ps sp) (hr : Room k X.A) (hx : Passes (L2.CX X.prog X.w) X E0) : OpR X (compareOp .Eq) (rEqN C sp) := by
  intro pins s σ H x y v u Q I rx ry h
  obtain ⟨p, d, fs, l, xs, rfl, rfl, hp, hl, hsp⟩ := h
  cases rx
  cases ry
  have npl : p ≠ l := by rintro rfl; rw [hp] at hl; cases hl
  have at_ : ∀ {s1 : Shared}, Inv X pins σ H s1 → (∃ oo od, PySem.W.InstAt s1.heap p oo C od) ∧ ∃ ol, s1.heap.get? l = some ol ∧ ol.cls = .type "list" := fun {s1} I1 => by
    obtain ⟨mA, J, _⟩ := ins_get I1.hok hp
    obtain ⟨od, J, _⟩ := J.look
    obtain ⟨its, r', pl, _⟩ := I1.list (SqL.of hl)
    obtain ⟨ol, h1, h2, _⟩ := pl.isList
    exact ⟨⟨_, _, J⟩, ol, h1, h2⟩
  obtain ⟨⟨oo, od, J⟩, ol, hol, hcl⟩ := at_ I
  have tl : s.TypeIs (.ref l) "list" := ⟨ol, hol, hcl⟩
  have nl : (Value.ref C != Value.type "list") = true := rfl
  show wpAny _ _ (richCompare .Eq _ _) _ _ _
  simp only [richCompare, cmpInfo_Eq, oneThing_ref]
  refine wpAny_holding (wpAny_bind (wpAny_cRoomFor hr.units0 ?_))
  refine wpAny_bind (J.type.here (wpAny_bind (wpAny_typeOf tl ?_)))
  rw [if_pos nl]
  refine wpAny_bind ((PySem.W.looks_subIn I.kIn (O.sub "list" (by decide))).here ?_)
  simp only [Bool.false_eq_true, if_false, Bool.not_false, if_true]
  refine wpAny_bind (m := tryCompare (.ref p) _ (.ref l)) ?_
  unfold tryCompare
  refine wpAny_bind (PySem.W.ifBound_K I.kIn J O.find O.fn (wpAny_mono (run_inN (us := [.ref p, .ref l]) (vs := [.ref p, .ref l]) rfl F hr hx I (.cons rfl (.cons rfl .nil)) hsp) (fun v s1 z => ?_) fun _ _ z => z))
  obtain ⟨rfl, H', I1, rfl, q⟩ := z
  refine wpAny_pure ?_
  obtain ⟨⟨oo1, od1, J1⟩, ol1, hol1, hcl1⟩ := at_ I1
  have tl1 : s1.TypeIs (.ref l) "list" := ⟨ol1, hol1, hcl1⟩
  have kc : PySem.W.kitCls X.K (.ref C) (.type "list") = some false := by
    unfold PySem.W.kitOne at hk
    rw [if_neg (show ¬ (Value.ref C == Value.type "list") = true from fun z => by have z := eq_of_beq z; cases z)] at hk
    exact hk
  have lk := (PySem.W.kit_cls (M := model X.prog X.w) I1.kIn kc).2.2
  refine wpAny_bind (m := tryCompare (.ref l) _ (.ref p)) (wpAny_tryCompare_declines tl1 PySem.F.slot_list_eq (list_declinesI tl1 J1.type lk ⟨rfl, ?_⟩))
  refine wpAny_bind (wpAny_rule (wpAny_bind (SeqAt.wpAny_isSame_ref_other' npl J1.at_ hol1 (by rw [hcl1]; decide) (wpAny_pure ?_))))
  exact ⟨.bl false, _, I1, rfl, q⟩
end
end AT

set_option maxHeartbeats 4000000
namespace AT
open PySem PySem.Spec PyProof.Rows L2
/-- list(x) of a list or a tuple, with K named -/
def rListOf (K : PySem.W.Frag) : List V → Hp → VK → Prop := fun xs H Q => ∃ p ys, xs = [.ref p] ∧ (SqL K H p ys ∨ SqT K H p ys) ∧ ∀ l, H l = none → Q (.ref l) (upd H l (.lst ys))
theorem call_listK {X : Cx} : CallR X (.type "list") (rListOf X.K) := call_list_of
end AT

set_option maxHeartbeats 4000000
namespace AT
open PySem PySem.Spec PyProof.Rows L2
/-! ### a keyword-only parameter with a default that is an object -/
def kwdA (loc : PySem.W.Frag → Addr) (x : Str) (K : PySem.W.Frag) : Addr := match K.lookup (loc K) with
  | some ⟨_, _, .func u, _⟩ => (match u.kwdefaults with
    | .ref D => (match PySem.W.nsIn K D x with
      | some (some (.ref a)) => a
      | _ => 0)
    | _ => 0)
  | _ => 0
/-- a def with one keyword-only parameter at the end, called with it by name -/
def OkW (P : Program) (w : World) (K : PySem.W.Frag) (mg : Str → Option Value) (base : Heap) (k : Nat) (f : Addr) (ps : List Str) (n : Nat) (x : Str) (sp : Sp) : Prop :=
  ∃ fd, FnOk P w K mg base (L2.CX P w) k f fd ps sp ∧ KBn K fd ps n [x] (fun us ws => us ++ ws) (fun vs zs => vs ++ zs) ∧ PySem.W.keepIn K (.ref f) = true
theorem mk_okW {P : Program} {w : World} {K : PySem.W.Frag} {mg : Str → Option Value} {base : Heap} {x qual kw : Str} {st : Stmt} {kv : V} {f : Addr} {N ps : List Str} {k n : Nat} {sp : Sp}
    (F : ∃ fd, FunD K x qual (defArgs st) (defBody st) (defScope st) [] [(kw, kv)] f fd) (S : FnScope N ps (defScope st)) (hn : n + 1 = ps.length)
    (hb : ∀ (kV doc pm : Value) (an : Option Addr) (cdv ct : Value) (us : List Value) (u : Value), us.length = n → bindArgs (PySem.W.fnOf x qual (defArgs st) (defBody st) (defScope st) .none kV doc pm an cdv ct) ⟨us, [(kw, u)]⟩ = pure (ps.zip (us ++ [u])))
    (hd : ∀ (D : Addr) (doc pm : Value) (an : Option Addr) (cdv ct : Value) (us : List Value) (u : Value), us.length = n → KwChain D [(kw, u)] (bindArgs (PySem.W.fnOf x qual (defArgs st) (defBody st) (defScope st) .none (.ref D) doc pm an cdv ct) ⟨us, []⟩) (ps.zip (us ++ [u])))
    (len : ∀ vs H Q E, sp vs H Q E → vs.length = ps.length)
    (body : ∀ (cdv : Value) (A : Around) (outer : List Env) (s : Shared) (H : Hp) (vs : List V) (Q : VK) (E : XK), Room k (A.deeper (envOfC qual (defScope st) s.heap.objs.size f cdv)) → sp vs H Q E →
      ∃ t, PSs (cxOf (L2.CX P w) P w K mg base N qual (defScope st) f cdv A outer s H E) (defBody st) t ∧ t { nx := fun _ H' => Q .non H', rt := Q } (start N vs) H) :
    OkW P w K mg base (k + 1) f ps n kw sp ∧ OkD P w K mg base (k + 1) f ps [kv] sp := by
  obtain ⟨fd, F⟩ := F
  refine ⟨⟨fd, F.ok S len body, ?_, F.kp⟩, ?_⟩
  · obtain ⟨oc, od, dV, kV, doc, pm, an, cdv, ct, osl, rfl, lk, hcd, hD, hK⟩ := F.ex
    rcases hD with ⟨_, rfl⟩ | ⟨e, _⟩
    · refine ⟨fun s us ws X l1 l2 => ?_, fun r1 r2 => r1.append r2⟩
      obtain ⟨u, rfl⟩ := List.length_eq_one_iff.mp l2
      exact .of_eq (hb kV doc pm an cdv ct us u l1)
    · exact absurd rfl e
  · obtain ⟨ds, vd, b⟩ := F.binds0 (ps := ps) n (by simp) (by simpa using hn) (fun D doc pm an cdv ct us ks h1 h2 => by
      obtain ⟨u, rfl⟩ := List.length_eq_one_iff.mp h2
      exact hd D doc pm an cdv ct us u h1)
    exact ⟨fd, ds, F.ok S len body, vd, b, F.kp⟩
section
variable {X : Cx} {k n : Nat} {f : Addr} {ps : List Str} {sp : Sp} {dvs : List V} {E : XK} {x kw : Str} {p pos : Pos} {e : Expr} {es : List Expr} {kws : List Keyword} {t tk : TA}
/-- f(e, ..) with the defaults left out -/
theorem ok_callD (F : OkD X.prog X.w X.K X.mg X.base k f ps dvs sp) (hr : Room k X.A) (hg : Gl X x) (hm : X.mg x = some (.ref f)) (hx : Passes (L2.CX X.prog X.w) X E) (ha : PA X (e :: es) t)
    (hdb : (x == ("__debug__" : Str)) = false := by decide) (hst : starEach (e :: es) X.env = (false, eval e X.env) :: starEach es X.env := by rfl) (hns : (backTo pos (starEach es X.env)).any (·.1) = false := by rfl) :
    PE X (.Call (.Name x p) (e :: es) [] pos) (tCall sp dvs E t) := by
  obtain ⟨fd, ds, F1, vd, b, kp⟩ := F
  exact pe_call F1 hr hg hm kp b vd hx ha hdb hst hns
/-- f(e, .., kw = v) -/
theorem ok_callW (F : OkW X.prog X.w X.K X.mg X.base k f ps n kw sp) (hr : Room k X.A) (hg : Gl X x) (hm : X.mg x = some (.ref f)) (hx : Passes (L2.CX X.prog X.w) X E) (ha : PA X (e :: es) t) (hkw : PK X kws tk)
    (hall : (backToKw pos (keywordEach kws X.env)).all (·.1.isSome) = true := by rfl) (hks : (backToKw pos (keywordEach kws X.env)).filterMap (·.1) = [kw] := by rfl)
    (hdb : (x == ("__debug__" : Str)) = false := by decide) (he : starEach (e :: es) X.env = (false, eval e X.env) :: starEach es X.env := by rfl)
    (hpl : ((backTo pos (starEach (e :: es) X.env)).any (·.1) || (backToKw pos (keywordEach kws X.env)).any (·.1.isNone)) = false := by rfl) :
    PE X (.Call (.Name x p) (e :: es) kws pos) (tCallN n 1 sp (fun vs zs => vs ++ zs) E t tk) := by
  obtain ⟨fd, F1, b, kp⟩ := F
  exact pe_callN F1 hr hg hm kp b hx ha hkw hall hks hdb he hpl
def tCallNS (n m : Nat) (sp : Sp) (gV : List V → List V → List V) (E : L2.St → XK) (t tk : TA) : TE := fun σ H Q => t σ H fun vs H1 => tk σ H1 fun zs H2 => vs.length = n ∧ zs.length = m ∧ sp (gV vs zs) H2 Q (E σ)
/-- .. in a try's body -/
theorem ok_callWS {W : WX} (F : OkW X.prog X.w X.K X.mg X.base k f ps n kw sp) (hr : Room k X.A) (hg : Gl X x) (hm : X.mg x = some (.ref f)) (tkk : Takes X W) (ha : PA X (e :: es) t) (hkw : PK X kws tk)
    (hall : (backToKw pos (keywordEach kws X.env)).all (·.1.isSome) = true := by rfl) (hks : (backToKw pos (keywordEach kws X.env)).filterMap (·.1) = [kw] := by rfl)
    (hdb : (x == ("__debug__" : Str)) = false := by decide) (he : starEach (e :: es) X.env = (false, eval e X.env) :: starEach es X.env := by rfl)
    (hpl : ((backTo pos (starEach (e :: es) X.env)).any (·.1) || (backToKw pos (keywordEach kws X.env)).any (·.1.isNone)) = false := by rfl) :
    PE X (.Call (.Name x p) (e :: es) kws pos) (tCallNS n 1 sp (fun vs zs => vs ++ zs) (fun σ cls d H => W cls d σ H) t tk) := by
  obtain ⟨fd, F1, hb, kp⟩ := F
  refine ⟨fun pins s σ H Q I h => ?_⟩
  refine wpAny_Call_Name_kw (ld_glob I hg hm ?_ hdb)
  refine PySem.W.callWith_KW (h₀ := X.base) I.ok.mod.kin kp hall (thn (ha.run pos pins s σ H _ I h) fun us s1 ⟨vs, H1, I1, r, q⟩ => ?_) hpl he
  refine thn (hkw.run pos pins s1 σ H1 _ I1 q) fun ws s2 ⟨zs, H2, I2, rz, l1, l2, q2⟩ => ⟨I2.kIn, ?_⟩
  rw [hks]
  have r2 := hb.rel r rz
  refine wpAny_call (codeAny_mono (F1.run X.A X.stack s2 H2 ⟨us, [kw].zip ws⟩ (us ++ ws) (vs ++ zs) Q (fun cls d H => W cls d σ H) hr I2.env0 (hb.to s2 us ws I2.kIn (r.length.symm.trans l1) (rz.length.symm.trans l2)) r2 q2) fun res s' hq => ?_)
  cases res with
  | error er => exact passAt tkk σ pins H2 s2 er s' I2 hq
  | ok fl =>
    cases fl with
    | ret u => exact I2.after hq
    | next => exact False.elim hq
    | brk => exact False.elim hq
    | cont => exact False.elim hq
end
end AT

set_option maxHeartbeats 4000000
namespace AT
open PySem PySem.Spec PyProof.Rows L2
/-- a list's method inside a comprehension's block -/
theorem pe_bmK {X : Cx} {K : PySem.W.Frag} {T name id : String} {r : V → List V → Hp → VK → Prop} {o e : Expr} {es : List Expr} {to : TE} {t : TA} {apos cpos : Pos} (hK : X.K = K) (pa : PlainAttrs T) (slot : Slot T name id) (hty : typeOf (.builtin id) = pure (.type "method_descriptor")) (hm : MtR X id r) (ho : PE X o to) (ha : PA X (e :: es) t)
    (hbase : attributeBase o name X.env (eval o X.env) = eval o X.env := by rfl)
    (hfew : ((backTo cpos (starEach (e :: es) X.env)).all (fun x => !x.1) && (backToKw cpos (keywordEach [] X.env)).all (fun x => x.1.isSome)
      && decide ((e :: es).length + ([] : List Keyword).length + (if ([] : List Keyword).isEmpty then 0 else 1) < 30)) = true := by rfl)
    (hline : (apos.endLine == cpos.line) = true := by rfl) (hs : starEach (e :: es) X.env = (false, eval e X.env) :: starEach es X.env := by rfl) (hplain : (backTo cpos (starEach es X.env)).any (·.1) = false := by rfl) :
    PE X (.Call (.Attribute o name apos) (e :: es) [] cpos) (tBM K T r to t) := by
  subst hK
  exact pe_bm pa slot hty hm ho ha hbase hfew hline hs hplain
end AT

set_option maxHeartbeats 4000000
namespace AT
open PySem PySem.Spec PyProof.Rows L2
/-- a text times an int -/
def rMulS : R2 := fun x y H Q => ∃ z n, x = .str z ∧ y = .int n ∧ MulOk z n ∧ Q (.str (Txt.mul z n)) H
theorem op_mulS {X : Cx} : OpR X (binaryOp .Mult) rMulS := by
  intro pins s σ H x y v u Q I rx ry h
  obtain ⟨z, n, rfl, rfl, hok, q⟩ := h
  obtain ⟨t, rfl⟩ := rx
  obtain ⟨t', rfl⟩ := ry
  exact SB.mul hok fun t2 k => ⟨.str _, H, I.tok _, ⟨_, rfl⟩, q⟩
/-- f'..' in a comprehension's block: its reading has a name -/
def tJn (ts : List TE) : TE := fun σ H Q => tJs ts Str.empty σ H fun out H1 => Q (.str out) H1
theorem pe_joinedK {X : Cx} {v1 v2 : Expr} {rest : List Expr} {ts : List TE} {pos : Pos} (h : PJ X (v1 :: v2 :: rest) ts) : PE X (.JoinedStr (v1 :: v2 :: rest) pos) (tJn ts) := pe_joined h
end AT

set_option maxHeartbeats 4000000
namespace AT
open PySem PySem.Spec PyProof.Rows L2
/-! ### repr within an except suite -/
section
variable {X : Cx} {pins : List (Addr × Obj)} {σ : L2.St} {H : Hp} {s : Shared}
theorem call_reprU (hgd : X.A.guards = some []) (hun : X.A.units + 64 < cLine) (hK : ∃ o, X.K.lookup sysModules = some o ∧ o.cls = .type "dict") : CallR X (.builtin "repr") (rRepr X.K) := by
  intro pins s σ H xs us Q I r h
  obtain ⟨x, d, rfl, hd, hsh, hdp, hsz, q⟩ := h
  obtain ⟨u, rfl, ru⟩ := vals1 r
  obtain ⟨as, hR, hns⟩ := hd.reads hK I _ _ u ru
  cases hR with
  | none => exact PySem.P.repr_of_none ⟨.str _, H, I.tok _, ⟨_, rfl⟩, q⟩
  | bool b => exact PySem.P.repr_of_bool ⟨.str _, H, I.tok _, ⟨_, rfl⟩, q⟩
  | int i t => exact PySem.P.repr_of_int (of_decide_eq_true hsh) ⟨.str _, H, I.tok _, ⟨_, rfl⟩, q⟩
  | str y t => exact PySem.P.repr_of_str ⟨.str _, H, I.tok _, ⟨_, rfl⟩, q⟩ hsz
  | list h1 h2 h3 h4 =>
    exact repr_of_reads' (.list h1 h2 h3 h4) hsh (fun _ => hns) hgd (by omega) (fun _ _ z => z) (fun h' u' tk kp => ⟨.str _, H, I.kept kp, ⟨_, rfl⟩, q⟩) hsz
  | tuple h1 h2 h3 h4 =>
    exact repr_of_reads' (.tuple h1 h2 h3 h4) hsh (fun _ => hns) hgd (by omega) (fun _ _ z => z) (fun h' u' tk kp => ⟨.str _, H, I.kept kp, ⟨_, rfl⟩, q⟩) hsz
  | dict h1 h2 h3 h4 h5 =>
    exact repr_of_reads' (.dict h1 h2 h3 h4 h5) hsh (fun _ => hns) hgd (by omega) (fun _ _ z => z) (fun h' u' tk kp => ⟨.str _, H, I.kept kp, ⟨_, rfl⟩, q⟩) hsz
theorem call_reprS {a : Addr} {pn : List (Addr × Obj)} {k : Nat} (hgd : X.A.guards = some []) (hr : Room k X.A) (hK : ∃ o, X.K.lookup sysModules = some o ∧ o.cls = .type "dict") : CallR (X.suite a pn) (.builtin "repr") (rRepr X.K) :=
  call_reprU (X := X.suite a pn) hgd (by have := hr.units; show X.A.units + 64 < cLine; omega) hK
end
end AT

set_option maxHeartbeats 4000000
/-! == of lists with own == within, both answers; list.index by own == -/
namespace AT
open PySem PySem.Spec PyProof.Rows L2
section
open MeetsSeq MeetsSeq2 MeetsSeq3 SeqRoads2 GQ
open AutoSeq1 (wpAny_loadPart')
variable {prog : Program} {w : World} {A : Around} {R : Result → Shared → Prop} {E : Value → Shared → Prop}
theorem nec_loop {l b : Addr} {N : Nat} {e : Nat → Bool} {J : Shared → Prop} (hl : LstJ prog w A (fun er t' => R (.error er) t') l b N e J) (done : ∀ t, J t → R (.ok (.ret (.bool (!(List.range N).all e)))) t) (k : Nat) :
    ∀ i : Nat, N - i = k → i ≤ N → ((List.range N).take i).all e = true → ∀ t, J t → wpAny (model prog w) A.in1 (Builtin.«list.__eq__.loop» ⟨[.ref l, .ref b, rawInt i, rawInt 3], []⟩) (FinOf prog w A R) (fun er t' => R (.error er) t') t := by
  induction k with
  | zero =>
    intro i hk hi hall t hJ
    obtain ⟨us, vs, m1, m2, g1, g2, z1, z2, _⟩ := hl _ hJ
    have fin := done t hJ
    rw [List.take_of_length_le (by simp; omega)] at hall
    rw [hall] at fin
    obtain ⟨x1, x2, x3, x4, x5⟩ := t
    wp_walk using wpAny_loadPart' g1, wpAny_loadPart' g2
    have n1 : us[((i : Nat) : Int).toNat]? = none := by simp; omega
    have n2 : vs[((i : Nat) : Int).toNat]? = none := by simp; omega
    rw [n1, n2]
    wp_walk using wpAny_loadPart' g1, wpAny_loadPart' g2
    show R (.ok (.ret (.bool (us.size != vs.size)))) _
    rw [z1, z2]
    simpa using fin
  | succ k ih =>
    intro i hk hi hall t hJ
    obtain ⟨us, vs, m1, m2, g1, g2, z1, z2, turn⟩ := hl _ hJ
    have l1 : i < us.size := by omega
    have l2 : i < vs.size := by omega
    have st := turn i l1 l2
    obtain ⟨x1, x2, x3, x4, x5⟩ := t
    wp_walk using wpAny_loadPart' g1, wpAny_loadPart' g2
    have n1 : us[((i : Nat) : Int).toNat]? = some us[i] := by simp [l1]
    have n2 : vs[((i : Nat) : Int).toNat]? = some vs[i] := by simp [l2]
    have nc : ((i : Int) + 1) = ((i + 1 : Nat) : Int) := by omega
    rw [n1, n2]
    refine wpAny_bind (wpAny_mono st (fun c t2 z => ?_) fun _ _ z => z)
    obtain ⟨rfl, hJ2⟩ := z
    cases hc : e i with
    | true =>
      have rest := ih (i + 1) (by omega) (by omega) (by
        rw [List.take_succ, List.all_append, hall, Bool.true_and]
        have : i < N := by omega
        simp [this, hc]) t2 hJ2
      obtain ⟨y1, y2, y3, y4, y5⟩ := t2
      wp_walk
      rw [nc]
      exact ⟨plainId_quiet plain_eq_loop _, codeAny_builtin entry_eq_loop (by
        rw [Around.under_plainId plain_eq_loop _]
        exact rest)⟩
    | false =>
      have fin := done _ hJ2
      have hf : (List.range N).all e = false := by
        rw [List.all_eq_false]
        exact ⟨i, List.mem_range.mpr (by omega), by rw [hc]; decide⟩
      rw [hf] at fin
      obtain ⟨us2, vs2, m3, m4, g3, g4, z3, z4, _⟩ := hl _ hJ2
      obtain ⟨y1, y2, y3, y4, y5⟩ := t2
      have n3 : us2[((i : Nat) : Int).toNat]? = some us2[i] := by simp
      have n4 : vs2[((i : Nat) : Int).toNat]? = some vs2[i] := by simp
      wp_walk using wpAny_loadPart' g3, wpAny_loadPart' g4
      rw [n3, n4]
      wp_walk
      exact fin
theorem nec {l b : Addr} {N : Nat} {e : Nat → Bool} {J : Shared → Prop} {Q : Value → Shared → Prop} {t : Shared} (hu : A.units < cLine) (hl : LstJ prog w A E l b N e J) (done : ∀ t, J t → Q (.bool (!(List.range N).all e)) t) (h0 : J t) :
    wpAny (model prog w) A (richCompare .NotEq (.ref l) (.ref b)) Q E t := by
  obtain ⟨us, vs, m1, m2, g1, g2, z1, z2, _⟩ := hl _ h0
  refine wpAny_richCompare_same_room (op := .NotEq) ⟨_, g1, rfl⟩ ⟨_, g2, rfl⟩ F.slot_list_ne (call_here F.slot_list_ne ⟨_, g1, rfl⟩ F.entry_list_ne (F.args_list_ne_2 _ _) ?_) hu
  have rest := nec_loop (A := A) (R := wants (fun v t' => v ≠ .notImplemented ∧ Q v t') E) hl (fun t' z => ⟨(fun x => nomatch x), done t' z⟩) _ 0 rfl (Nat.zero_le _) rfl t h0
  obtain ⟨x1, x2, x3, x4, x5⟩ := t
  have sb := AutoSeq1.sub_list_list
  have hne : ¬ (us.size != vs.size) = true := by simp [z1, z2]
  wp_walk using wpAny_loadPart' g1, wpAny_loadPart' g2
  exact ⟨plainId_quiet plain_eq_loop _, codeAny_builtin entry_eq_loop (by
    rw [Around.under_plainId plain_eq_loop _]
    exact rest)⟩
/-- lists of unlike lengths -/
theorem nec_len {l b : Addr} {us vs : Array Value} {m1 m2 : Nat} {Q : Value → Shared → Prop} {t : Shared} (hu : A.units < cLine) (g1 : t.heap.get? l = some { cls := .type "list", data := .seq us m1 }) (g2 : t.heap.get? b = some { cls := .type "list", data := .seq vs m2 })
    (hz : us.size ≠ vs.size) (done : Q (.bool true) t) : wpAny (model prog w) A (richCompare .NotEq (.ref l) (.ref b)) Q E t := by
  refine wpAny_richCompare_same_room (op := .NotEq) ⟨_, g1, rfl⟩ ⟨_, g2, rfl⟩ F.slot_list_ne (call_here F.slot_list_ne ⟨_, g1, rfl⟩ F.entry_list_ne (F.args_list_ne_2 _ _) ?_) hu
  obtain ⟨x1, x2, x3, x4, x5⟩ := t
  have sb := AutoSeq1.sub_list_list
  have hne : (us.size != vs.size) = true := by simp [hz]
  wp_walk using wpAny_loadPart' g1, wpAny_loadPart' g2
  exact ⟨(fun x => nomatch x), done⟩
end
/-- x != y of lists with own == within, both answers -/
def rNeBb (D : Cmp) : R2 := fun x y H Q => ∃ b, CLst D x y H b ∧ Q (.bl !b) H
section
variable {X : Cx} {n : Nat} {D : Cmp}
theorem op_neBb (h : EqB X n D) (hr : Room (n + 1) X.A) : OpR X (compareOp .NotEq) (rNeBb D) := by
  intro pins s σ H x y v u Q I rx ry hq
  obtain ⟨b, ⟨p, q, xs, ys, rfl, rfl, hp, hq, hd⟩, k⟩ := hq
  cases rx
  cases ry
  have sb : Sub X (n + 1) X.A := ⟨hr, rfl⟩
  show wpAny (model X.prog X.w) X.A (richCompare .NotEq (.ref p) (.ref q)) (EP X pins σ Q) X.xe s
  rcases hd with ⟨hne, rfl⟩ | ⟨e, hlen, he, rfl⟩
  · obtain ⟨z, its, k1, r1, e1⟩ := I.hok p _ hp
    obtain ⟨z2, its2, k2, r2, e2⟩ := I.hok q _ hq
    exact nec_len (us := its.toArray) (vs := its2.toArray) hr.units0 e1 e2 (by rw [List.size_toArray, List.size_toArray, ← r1.length, ← r2.length]; exact hne) ⟨.bl true, H, I, rfl, k⟩
  · refine nec (N := xs.length) (e := e) (J := fun t => Inv X pins σ H t) hr.units0 (fun t It => ?_) (fun t It => ⟨.bl _, H, It, rfl, k⟩) I
    obtain ⟨z, its, k1, r1, e1⟩ := It.hok p _ hp
    obtain ⟨z2, its2, k2, r2, e2⟩ := It.hok q _ hq
    refine ⟨its.toArray, its2.toArray, k1, k2, e1, e2, by rw [List.size_toArray, ← r1.length], by rw [List.size_toArray, ← r2.length, ← hlen], fun i h1 h2 => ?_⟩
    rw [List.size_toArray] at h1 h2
    have g1 : i < xs.length := by rw [r1.length]; exact h1
    have g2 : i < ys.length := by rw [r2.length]; exact h2
    obtain ⟨u1, a1, b1⟩ := r1.get (List.getElem?_eq_getElem g1)
    obtain ⟨u2, a2, b2⟩ := r2.get (List.getElem?_eq_getElem g2)
    rw [List.getElem?_eq_getElem h1] at a1
    rw [List.getElem?_eq_getElem h2] at a2
    cases a1
    cases a2
    exact h X.A.in1 pins t σ H _ _ _ _ _ sb.in1 It b1 b2 (he i _ _ (List.getElem?_eq_getElem g1) (List.getElem?_eq_getElem g2))
end
end AT

set_option maxHeartbeats 4000000
/-! == of lists with own == within, both answers; list.index by own == -/
namespace AT
open PySem PySem.Spec PyProof.Rows L2
section
open MeetsSeq MeetsSeq2 MeetsSeq3 SeqRoads2 GQ
open AutoSeq1 (wpAny_loadPart')
variable {prog : Program} {w : World} {A : Around} {R : Result → Shared → Prop} {E : Value → Shared → Prop}
theorem rmc_loop {l : Addr} {x : Value} {N j : Nat} {e : Nat → Bool} {J : Shared → Prop} (hl : LstX prog w A (fun er t' => R (.error er) t') l x N e J) (hj : j < N) (hN : N ≤ sizeLine) (yes : e j = true)
    (done : ∀ t, J t → R (.ok (.ret .none)) { t with heap := t.heap.update l (Obj.mapSeq fun xs => xs.eraseIdxIfInBounds j) }) (k : Nat) :
    ∀ i : Nat, j - i = k → i ≤ j → (∀ m, i ≤ m → m < j → e m = false) → ∀ t, J t → wpAny (model prog w) A.in1 (Builtin.«list.remove.loop» ⟨[.ref l, x, rawInt i], []⟩) (FinOf prog w A R) (fun er t' => R (.error er) t') t := by
  induction k with
  | zero =>
    intro i hk hi no t hJ
    obtain rfl : i = j := by omega
    obtain ⟨us, m1, g1, z1, turn⟩ := hl _ hJ
    have hlt : i < us.size := by omega
    have st := turn i hlt
    obtain ⟨x1, x2, x3, x4, x5⟩ := t
    wp_walk using wpAny_loadPart' g1
    have n1 : us[((i : Nat) : Int).toNat]? = some us[i] := by simp [hlt]
    rw [n1]
    refine wpAny_bind (wpAny_mono st (fun c t2 z => ?_) fun _ _ z => z)
    obtain ⟨rfl, hJ2⟩ := z
    rw [yes]
    have fin := done _ hJ2
    obtain ⟨us2, m2, g2, z2, _⟩ := hl _ hJ2
    obtain ⟨y1, y2, y3, y4, y5⟩ := t2
    have hs1 : us2.size ≤ sizeLine := by omega
    have hz' : (us2.eraseIdxIfInBounds i).size ≤ sizeLine + 1 := Nat.le_trans (size_erased us2 _) (Nat.le_succ_of_le hs1)
    wp_walk using (wpAny_updateSeq g2 rfl (hz := hs1) (_hz' := hz')), wpAny_loadPart' g2
    simpa using fin
  | succ k ih =>
    intro i hk hi no t hJ
    obtain ⟨us, m1, g1, z1, turn⟩ := hl _ hJ
    have hlt : i < us.size := by omega
    have st := turn i hlt
    obtain ⟨x1, x2, x3, x4, x5⟩ := t
    wp_walk using wpAny_loadPart' g1
    have n1 : us[((i : Nat) : Int).toNat]? = some us[i] := by simp [hlt]
    have nc : ((i : Int) + 1) = ((i + 1 : Nat) : Int) := by omega
    rw [n1]
    refine wpAny_bind (wpAny_mono st (fun c t2 z => ?_) fun _ _ z => z)
    obtain ⟨rfl, hJ2⟩ := z
    rw [no i (Nat.le_refl _) (by omega)]
    have rest := ih (i + 1) (by omega) (by omega) (fun m h1 h2 => no m (by omega) h2) t2 hJ2
    obtain ⟨y1, y2, y3, y4, y5⟩ := t2
    wp_walk
    rw [nc]
    exact ⟨plainId_quiet plain_remove_loop _, codeAny_builtin entry_remove_loop (by
      rw [Around.under_plainId plain_remove_loop _]
      exact rest)⟩
theorem rmc {l : Addr} {x : Value} {N j : Nat} {e : Nat → Bool} {J : Shared → Prop} {Q : Value → Shared → Prop} {t : Shared} (hl : LstX prog w A E l x N e J) (hj : j < N) (hN : N ≤ sizeLine) (yes : e j = true) (no : ∀ m, m < j → e m = false)
    (done : ∀ t, J t → Q .none { t with heap := t.heap.update l (Obj.mapSeq fun xs => xs.eraseIdxIfInBounds j) }) (h0 : J t) : wpAny (model prog w) A (call (.builtin "list.remove") [.ref l, x]) Q E t := by
  obtain ⟨us, m1, g1, z1, _⟩ := hl _ h0
  refine call_here F.slot_list_remove ⟨_, g1, rfl⟩ F.entry_list_remove (F.args_list_remove_2 _ _) ?_
  have rest := rmc_loop (A := A) (R := wants Q E) hl hj hN yes (fun t' z => done t' z) _ 0 rfl (Nat.zero_le _) (fun m _ h2 => no m h2) t h0
  obtain ⟨x1, x2, x3, x4, x5⟩ := t
  wp_walk using wpAny_loadPart' g1
  exact ⟨plainId_quiet plain_remove_loop _, codeAny_builtin entry_remove_loop (by
    rw [Around.under_plainId plain_remove_loop _]
    exact rest)⟩
end
/-- l.remove(y) by own ==, where it is there -/
def rRemoveB (D : Cmp) : V → List V → Hp → VK → Prop := fun x xs H Q => ∃ (a : Addr) (y : V) (its : List V) (e : Nat → Bool) (j : Nat), x = V.ref a ∧ xs = [y] ∧ H a = some (.lst its) ∧ (∀ (i : Nat) z, its[i]? = some z → D z y H (e i)) ∧ j < its.length ∧ its.length < sizeLine ∧ e j = true ∧ (∀ m, m < j → e m = false) ∧ Q .non (upd H a (.lst (its.eraseIdx j)))
section
variable {X : Cx} {n : Nat} {D : Cmp}
theorem mt_removeB (h : EqB X n D) (hr : Room (n + 1) X.A) : MtR X "list.remove" (rRemoveB D) := by
  intro pins s σ H x xs v us Q I rx rxs hq
  obtain ⟨a, y, its, e, j, rfl, rfl, ha, he, hj, hz, yes, no, k⟩ := hq
  cases rx
  cases rxs with
  | cons ry rt =>
    rename_i uy ut
    cases rt
    have sb : Sub X (n + 1) X.A := ⟨hr, rfl⟩
    refine rmc (N := its.length) (e := e) (J := fun t => Inv X pins σ H t) (fun t It => ?_) hj (by omega) yes no (fun t It => ?_) I
    · obtain ⟨z, vs, k1, r1, e1⟩ := It.hok a _ ha
      refine ⟨vs.toArray, k1, e1, by rw [List.size_toArray, ← r1.length], fun i h1 => ?_⟩
      rw [List.size_toArray] at h1
      have g1 : i < its.length := by rw [r1.length]; exact h1
      obtain ⟨u1, a1, b1⟩ := r1.get (List.getElem?_eq_getElem g1)
      rw [List.getElem?_eq_getElem h1] at a1
      cases a1
      exact h X.A.in1 pins t σ H _ _ _ _ _ sb.in1 It b1 ry (he i _ (List.getElem?_eq_getElem g1))
    · obtain ⟨z, vs, k1, r1, e1⟩ := It.hok a _ ha
      refine ⟨.non, _, It.lset (its' := vs.eraseIdx j) ha e1 ?_ (r1.eraseIdx j) ?_, rfl, k⟩
      · show vs.toArray.eraseIdxIfInBounds j = (vs.eraseIdx j).toArray
        rw [List.eraseIdxIfInBounds_toArray]
      · have := List.length_eraseIdx_le its j
        omega
end
end AT

set_option maxHeartbeats 4000000
namespace AT
open PySem PySem.Spec PyProof.Rows L2
def wMa1 (K : PySem.W.Frag) (D : Ends) (c : Value) (i : Nat) (ts : Addr → Value → Option Addr → TS) : WX := fun cls d σ H => PySem.W.exmOne K cls c = some true ∧
  ∀ a, H a = none → ts a cls d { nx := fun σ' H' => D.nx (σ'.set i none) H', rt := D.rt, bk := fun σ' H' => D.bk (σ'.set i none) H', ct := fun σ' H' => D.ct (σ'.set i none) H' } (σ.set i (some (.ref a))) H
section
variable {X : Cx} {bd : List Stmt} {hds : List ExceptHandler} {pos : Pos} {tb : WX → TS} {x n : Str} {c : Value} {i : Nat} {ts : Addr → Value → Option Addr → TS} {s1 : Stmt} {ss : List Stmt} {q1 q2 : Pos}
/-- a try whose first clause takes what is raised: the others are never reached -/
theorem ps_try_m1 (stk : X.stack = X.env :: X.outer) (frm : X.env.frame = some X.env.locals)
    (hbd : ∀ (W : WX) (pn : List (Addr × Obj)) (xe : Value → Shared → Prop), Takes (X.tr pn xe) W → PassesOwn (model X.prog X.w) X.A X.env xe → PSs (X.tr pn xe) bd (tb W))
    (hN : X.N.Nodup) (hi : X.N[i]? = some n) (hl : X.env.kindOf n = some .local) (hc : Names X x c)
    (hsu : ∀ (a : Addr) (oe : Obj) (cls : Value) (d : Option Addr) (pn : List (Addr × Obj)), Zc cls d oe → (∃ vs, oe.data = .fields vs) → PSs (X.suite a ((a, oe) :: pn)) (s1 :: ss) (ts a cls d)) :
    PS X (.Try bd (.ExceptHandler (some (.Name x q1)) (some n) (s1 :: ss) q2 :: hds) [] [] pos) (fun D σ H => tb (wMa1 X.K D c i ts) D σ H) := by
  constructor
  intro pins s σ H D I h
  have oki := I.ok
  have frs2 : X.A.frames = some (X.env :: X.outer) := by rw [oki.frames, stk]
  refine wpAny_Try_except ?_
  refine wpAny_mono ((hbd (wMa1 X.K D c i ts) (X.pn ++ pins) (fun ev t1 => wpAny (model X.prog X.w) X.A (noteFrame ev X.env) (fun _ t2 => wpAny (model X.prog X.w) X.A (setFlight ev none) (fun _ t3 =>
    wpAny (model X.prog X.w) X.A (handleBy ev X.env (.ExceptHandler (some (.Name x q1)) (some n) (s1 :: ss) q2 :: hds)) (SP X pins D) X.xe t3) X.xe t2) X.xe t1) (fun u t xx => ?_) PassesOwn.looking).run [] s σ H D (I.toTry _) h) (fun fl t1 hfl => ?_) (fun _ _ z => z)
  · obtain ⟨a, G, tI, pp, σ1, H1, cls, d, rfl, Jt, nbh, upI, sk, na, eos, abr, wsh⟩ := xx
    have J1 : Inv X pins σ1 H1 tI := Jt.ofTry oki
    have sk2 : Sky G (X.env :: X.outer) a (Zc cls d) X.env.locals t.heap := by rw [← stk]; exact sk
    show wpAny (model X.prog X.w) X.A (noteFrame (.ref a) X.env) _ _ _
    refine Sky.land Zc.steady frs2 frm sk2 fun g3 fy3 ut3 => ?_
    have J3 : Inv X pins σ1 H1 { t with heap := g3 } := J1.landed nbh fy3.1 (upI.trans ut3) eos abr
    obtain ⟨ox3, vx3, gx3, zx3, dx3⟩ := fy3.there
    have nofr : a ∉ frs (X.env :: X.outer) := fun hm => by
      obtain ⟨_, o', e', hnf⟩ := fy3.2.2.1.mem hm
      rw [gx3] at e'
      cases e'
      exact hnf _ dx3
    have neL : a ≠ X.env.locals := fun z => nofr (List.mem_filterMap.mpr ⟨X.env, List.mem_cons_self, by rw [frm, z]⟩)
    have neF : a ∉ X.fs := fun hm => by
      obtain ⟨ev, hev, q⟩ := List.mem_filterMap.mp hm
      exact nofr (List.mem_filterMap.mpr ⟨ev, List.mem_cons_of_mem _ hev, q⟩)
    have Sx := J3.suite gx3 dx3 na neL neF
    obtain ⟨hb1, yes⟩ := wsh
    refine wpAny_handleBy_cons (codeAny_handlers_test ?_) (by intro q; cases q)
    have LT : PySem.W.Looks (model X.prog X.w) g3 (typeOf (.ref a)) cls := fun _ _ _ _ k q => wpAny_typeOf_ref (k _ _ gx3) (by rw [zx3.1]; exact q)
    have LM := PySem.W.exm_one (M := model X.prog X.w) (J3.kIn) LT hb1
    have tst : ∀ {Q : Value → Shared → Prop} {E : Value → Shared → Prop}, Q c { t with heap := g3 } → wpAny (model X.prog X.w) (X.A.mark (some (.ref a))) (eval (.Name x q1) X.env) Q E { t with heap := g3 } := fun {Q E} q => by
      obtain ⟨hg, hdbg, hm | ⟨hm, hv, hnn⟩⟩ := hc
      · exact ld_glob (X := X.suite a ((a, ox3) :: (X.pn ++ pins))) Sx hg hm q hdbg
      · exact ld_blt (X := X.suite a ((a, ox3) :: (X.pn ++ pins))) Sx hg hm hv q hnn hdbg
    refine tst (LM.here ?_)
    refine codeAny_handlers_suite_as ?_
    refine HandSPX.lands_againZ fy3 fun g4 fy4 ut4 => ?_
    have J4 : Inv X pins σ1 H1 { t with heap := g4 } := J1.landed nbh fy4.1 ((upI.trans ut3).trans ut4) eos abr
    obtain ⟨ox4, vx4, gx4, zx4, dx4⟩ := fy4.there
    have Sy := J4.suite gx4 dx4 na neL neF
    refine store_ok (X := X.suite a ((a, ox4) :: (X.pn ++ pins))) (v := .ref a) Sy hN hi (.inl hl) rfl (fun t5 S5 => ?_) (.inr hl)
    refine wpAny_mono ((hsu a ox4 cls d (X.pn ++ pins) zx4 ⟨_, dx4⟩).run [] t5 _ H1 _ S5 (yes a na)) (fun fl t6 hfl => ?_) (fun _ _ z => False.elim z)
    have gone : ∀ {σ6 : L2.St} {H6 : Hp} {Q : Shared → Prop}, Inv (X.suite a ((a, ox4) :: (X.pn ++ pins))) [] σ6 H6 t6 → (∀ t7, Inv X pins (σ6.set i none) H6 t7 → Q t7) →
        wpAny (model X.prog X.w) X.A (do bindName X.env n .none; unbindBehindTheSuite X.env n q2) (fun _ t7 => Q t7) X.xe t6 := fun {_ _ _} S6 hq => gone_ok (S6.unsuite oki) hN hi hl hq
    cases fl with
    | ret u =>
      obtain ⟨_, _, _, S6, rr, qq⟩ := hfl
      exact gone S6 fun _ J7 => ⟨_, _, _, J7, rr, qq⟩
    | _ =>
      obtain ⟨_, _, S6, qq⟩ := hfl
      exact gone S6 fun _ J7 => ⟨_, _, J7, qq⟩
  · cases fl with
    | next =>
      obtain ⟨_, _, Jn, q⟩ := hfl
      exact wpAny_execs_nil ⟨_, _, Jn.ofTry oki, q⟩
    | ret u =>
      obtain ⟨_, _, _, Jn, rr, q⟩ := hfl
      exact ⟨_, _, _, Jn.ofTry oki, rr, q⟩
    | _ =>
      obtain ⟨_, _, Jn, q⟩ := hfl
      exact ⟨_, _, Jn.ofTry oki, q⟩
end
end AT

set_option maxHeartbeats 4000000
namespace AT
open PySem PySem.Spec PyProof.Rows L2
open AutoSeq1 (wpAny_loadPart')
theorem str_declinesN (z : Str) (u : Tok) (l : Addr) (o : Obj) (es : Array DictEntry) (n : Nat) :
    Meets (Builtin.«str.__ne__» ⟨[.str z u, .ref l], []⟩) (fun _ R s => s.heap.get? l = some o ∧ o.data = .dict es n ∧ R (.ok (.ret .notImplemented)) s) :=
  .of_wp fun prog w A R s h => by
    obtain ⟨hp, g, d, tk, os⟩ := s
    obtain ⟨hl, hc, h⟩ := h
    wp_walk using wpAny_loadPart' hl, wpAny_load hl
    rw [hc]
    wp_walk
    exact ⟨_, rfl, h⟩
section
variable {prog : Program} {w : World} {A : Around} {E : Value → Shared → Prop} {s : Shared}
theorem dict_declinesN {a : Addr} {z : Str} {u : Tok} {Q : Value → Shared → Prop} (ha : s.TypeIs (.ref a) "dict") (q : Q .notImplemented s) : wpAny (model prog w) A (call (.builtin "dict.__ne__") [.ref a, .str z u]) Q E s := by
  refine wpAny_call_entry PySem.F.slot_dict_ne ha PySem.F.entry_dict_ne ?_ (PySem.F.args_dict_ne_2 _ _)
  show wpAny _ _ (Builtin.Dict.dictSlotArgs "__ne__" ⟨[.ref a, .str z u], []⟩ >>= _) _ _ s
  refine wpAny_bind ?_
  unfold Builtin.Dict.dictSlotArgs
  refine wpAny_bind (wpAny_notOrdered_dict ha ?_)
  show wpAny _ _ (pure (Value.ref a, Value.str z u)) _ _ s
  refine wpAny_pure ?_
  refine wpAny_bind (wpAny_isInstance (T := "str") (typeIs_str s z u) PySem.F.sub_str_dict ?_)
  simp only [Bool.not_false, if_true]
  refine wpAny_bind (wpAny_rule ?_)
  exact wpAny_pure ⟨_, rfl, q⟩
end
/-- an empty dict is unlike a text -/
theorem ne_emp {X : Cx} {pins : List (Addr × Obj)} {σ : L2.St} {H : Hp} {s : Shared} {a : Addr} {z : Str} {u : Tok} {Q : Value → Shared → Prop} {E : Value → Shared → Prop} (I : Inv X pins σ H s) (hu : X.A.units < cLine) (he : H a = some (.dK [])) (q : Q (.bool true) s) :
    wpAny (model X.prog X.w) X.A (compareOp .NotEq (.ref a) (.str z u)) Q E s := by
  obtain ⟨_, hs, vs, kv, o, es, ep, ho, hx, hda, _, hp, _⟩ := I.hok _ _ he
  show wpAny _ _ (richCompare .NotEq _ _) _ _ _
  have ty : s.TypeIs (.ref a) "dict" := ⟨o, ho, hx.1⟩
  exact SeqAt.rc_ne_decline_or (k := false) ty (typeIs_str s z u) (by decide) PySem.F.sub_str_dict PySem.F.slot_dict_ne PySem.F.slot_str_ne_refl
    (fun _ hq => dict_declinesN ty hq)
    (fun _ hq => call_meets PySem.F.slot_str_ne_refl (typeIs_str s z u) PySem.F.entry_str_ne (PySem.F.args_str_ne_2 _ _) (str_declinesN z u a o es ep) ⟨ho, hda, hq⟩)
    (fun _ hq => wpAny_of_eq (rfl : isSame (.ref a) (.str z u) = pure false) hq) (.inr hu) q
/-- x != z of data x, and of an empty dict, and a text z -/
def rNeZ (K : PySem.W.Frag) : R2 := fun x y H Q => ∃ z, y = .str z ∧ ((∃ d, Dp K H x d ∧ SeqAt.shaped d = true ∧ PyData.strOk z = true ∧ Q (.bl (!PyData.eqv d (.str z))) H) ∨ ∃ a, x = .ref a ∧ H a = some (.dK []) ∧ Q (.bl true) H)
theorem op_neZ {X : Cx} (hu : X.A.units + 64 < cLine) : OpR X (compareOp .NotEq) (rNeZ X.K) := by
  intro pins s σ H x y v u Q I rx ry h
  obtain ⟨z, rfl, ⟨d, hd, sd, so, q⟩ | ⟨a, rfl, he, q⟩⟩ := h
  · refine op_neD hu pins s σ H x (.str z) v u Q I rx ry ⟨d, _, hd, .str z, sd, ?_, q⟩
    show (PyData.strOk z && decide (0 ≤ 64)) = true
    rw [so]
    rfl
  · cases rx
    obtain ⟨t, rfl⟩ := ry
    exact ne_emp I (by omega) he ⟨.bl true, H, I, rfl, q⟩
end AT

namespace PR
/-! rows of shifts: reduced words over two (or more) units, no program in sight -/
section
variable {U : Type} [DecidableEq U]
/-- a row that is led on by a shift -/
def led (r : List (U × Rat)) (u : U) (q : Rat) : List (U × Rat) :=
  match r.getLast? with
  | some m => if m.1 = u then (if m.2 + q = 0 then r.dropLast else r.dropLast ++ [(u, m.2 + q)]) else (if q = 0 then r else r ++ [(u, q)])
  | none => if q = 0 then r else r ++ [(u, q)]
theorem led_nil (u : U) (q : Rat) : led [] u q = if q = 0 then [] else [(u, q)] := rfl
theorem led_snoc (r : List (U × Rat)) (v : U) (x : Rat) (u : U) (q : Rat) : led (r ++ [(v, x)]) u q = if v = u then (if x + q = 0 then r else r ++ [(u, x + q)]) else (if q = 0 then r ++ [(v, x)] else r ++ [(v, x)] ++ [(u, q)]) := by
  unfold led
  rw [List.getLast?_append, List.getLast?_singleton]
  simp only [Option.or_some, Option.getD_some, List.dropLast_concat]
  rfl
/-- reduced: neighbours have other units, no shift is nothing -/
def Red : List (U × Rat) → Prop
  | [] => True
  | m :: r => m.2 ≠ 0 ∧ (∀ n, r.head? = some n → m.1 ≠ n.1) ∧ Red r
theorem red_snoc (r : List (U × Rat)) (m : U × Rat) : Red (r ++ [m]) ↔ Red r ∧ m.2 ≠ 0 ∧ ∀ n, r.getLast? = some n → n.1 ≠ m.1 := by
  induction r with
  | nil => simp [Red]
  | cons a r ih =>
    rw [List.cons_append]
    simp only [Red]
    rw [ih]
    cases r with
    | nil => simp [Red]; grind
    | cons b r => simp [List.getLast?_cons_cons]; grind
theorem Red.init {r : List (U × Rat)} {m : U × Rat} (h : Red (r ++ [m])) : Red r := ((red_snoc r m).mp h).1
theorem snoc_or (r : List (U × Rat)) : r = [] ∨ ∃ s v x, r = s ++ [(v, x)] := by
  rcases List.eq_nil_or_concat r with h | ⟨s, b, h⟩
  · exact .inl h
  · exact .inr ⟨s, b.1, b.2, by rw [h, List.concat_eq_append]⟩
/-- led on by another unit, or from nothing -/
theorem led_app {r : List (U × Rat)} {u : U} {q : Rat} (h : ∀ n, r.getLast? = some n → n.1 ≠ u) : led r u q = if q = 0 then r else r ++ [(u, q)] := by
  unfold led
  cases e : r.getLast? with
  | none => rfl
  | some m => simp only [if_neg (h m e)]
theorem red_led {r : List (U × Rat)} (h : Red r) (u : U) (q : Rat) : Red (led r u q) := by
  rcases snoc_or r with rfl | ⟨s, v, x, rfl⟩
  · rw [led_nil]
    split
    · trivial
    · simp [Red]; grind
  · rw [led_snoc]
    obtain ⟨h1, h2, h3⟩ := (red_snoc _ _).mp h
    by_cases c : v = u
    · rw [if_pos c]
      split
      · exact h1
      · rename_i z
        exact (red_snoc _ _).mpr ⟨h1, z, by subst c; exact h3⟩
    · rw [if_neg c]
      split
      · exact h
      · rename_i z
        exact (red_snoc _ _).mpr ⟨h, z, fun n e => by rw [List.getLast?_concat] at e; cases e; exact c⟩
theorem led_zero {r : List (U × Rat)} (h : Red r) (u : U) : led r u 0 = r := by
  rcases snoc_or r with rfl | ⟨s, v, x, rfl⟩
  · rfl
  · rw [led_snoc]
    obtain ⟨h1, h2, h3⟩ := (red_snoc _ _).mp h
    have e : x + 0 = x := by grind
    rw [e]
    by_cases c : v = u
    · subst c
      rw [if_pos rfl, if_neg h2]
    · rw [if_neg c, if_pos rfl]
theorem led_led {r : List (U × Rat)} (h : Red r) (u : U) (p q : Rat) : led (led r u p) u q = led r u (p + q) := by
  rcases snoc_or r with rfl | ⟨s, v, x, rfl⟩
  · rw [led_nil, led_nil]
    by_cases c : p = 0
    · subst c
      rw [if_pos rfl, led_nil]
      have e : 0 + q = q := by grind
      rw [e]
    · rw [if_neg c, ← List.nil_append [(u, p)], led_snoc, if_pos rfl]
      rfl
  · obtain ⟨h1, h2, h3⟩ := (red_snoc _ _).mp h
    rw [led_snoc, led_snoc]
    have e : x + (p + q) = x + p + q := by grind
    by_cases c : v = u
    · subst c
      rw [if_pos rfl, if_pos rfl, e]
      by_cases z : x + p = 0
      · rw [if_pos z, led_app h3, z]
        have e2 : 0 + q = q := by grind
        rw [e2]
      · rw [if_neg z, led_snoc, if_pos rfl]
    · rw [if_neg c, if_neg c]
      by_cases z : p = 0
      · subst z
        have e2 : 0 + q = q := by grind
        rw [if_pos rfl, led_snoc, if_neg c, e2]
      · rw [if_neg z, led_snoc, if_pos rfl]
/-- a row with another one behind it -/
def mul (r w : List (U × Rat)) : List (U × Rat) := w.foldl (fun r m => led r m.1 m.2) r
theorem mul_nil (r : List (U × Rat)) : mul r [] = r := rfl
theorem mul_cons (r : List (U × Rat)) (m : U × Rat) (w : List (U × Rat)) : mul r (m :: w) = mul (led r m.1 m.2) w := rfl
theorem mul_snoc (r w : List (U × Rat)) (m : U × Rat) : mul r (w ++ [m]) = led (mul r w) m.1 m.2 := by
  unfold mul
  rw [List.foldl_append]
  rfl
theorem red_mul {r : List (U × Rat)} (h : Red r) : ∀ w : List (U × Rat), Red (mul r w) := by
  intro w
  induction w generalizing r with
  | nil => exact h
  | cons m w ih => exact ih (red_led h _ _)
theorem mul_led {r w : List (U × Rat)} (hr : Red r) (hw : Red w) (u : U) (q : Rat) : mul r (led w u q) = led (mul r w) u q := by
  rcases snoc_or w with rfl | ⟨s, v, x, rfl⟩
  · rw [led_nil]
    by_cases c : q = 0
    · subst c
      rw [if_pos rfl, led_zero (red_mul hr _)]
    · rw [if_neg c]
      rfl
  · rw [led_snoc, mul_snoc]
    by_cases c : v = u
    · subst c
      rw [if_pos rfl, led_led (red_mul hr _)]
      by_cases z : x + q = 0
      · rw [if_pos z, z, led_zero (red_mul hr _)]
      · rw [if_neg z, mul_snoc]
    · rw [if_neg c]
      by_cases z : q = 0
      · subst z
        rw [if_pos rfl, led_zero (red_led (red_mul hr _) _ _), mul_snoc]
      · rw [if_neg z, mul_snoc, mul_snoc]
theorem mul_mul {r : List (U × Rat)} (hr : Red r) : ∀ (v : List (U × Rat)) {w : List (U × Rat)}, Red w → mul r (mul w v) = mul (mul r w) v := by
  intro v
  induction v with
  | nil => intro w _; rfl
  | cons m v ih =>
    intro w hw
    rw [mul_cons, mul_cons, ih (red_led hw _ _), mul_led hr hw]
theorem nil_mul : ∀ {w : List (U × Rat)}, Red w → mul [] w = w := by
  intro w
  induction hn : w.length generalizing w with
  | zero => intro _; rw [List.eq_nil_of_length_eq_zero hn]; rfl
  | succ n ih =>
    intro h
    rcases snoc_or w with rfl | ⟨s, v, x, rfl⟩
    · rfl
    · obtain ⟨h1, h2, h3⟩ := (red_snoc _ _).mp h
      rw [mul_snoc, ih (by simpa using hn) h1, led_app h3, if_neg h2]
/-- the row that leads back -/
def inv (r : List (U × Rat)) : List (U × Rat) := r.reverse.map fun m => (m.1, -m.2)
theorem inv_nil : inv ([] : List (U × Rat)) = [] := rfl
theorem inv_snoc (r : List (U × Rat)) (m : U × Rat) : inv (r ++ [m]) = (m.1, -m.2) :: inv r := by
  unfold inv
  rw [List.reverse_append]
  rfl
theorem inv_cons (r : List (U × Rat)) (m : U × Rat) : inv (m :: r) = inv r ++ [(m.1, -m.2)] := by
  unfold inv
  rw [List.reverse_cons, List.map_append]
  rfl
theorem inv_inv (r : List (U × Rat)) : inv (inv r) = r := by
  unfold inv
  rw [← List.map_reverse, List.reverse_reverse, List.map_map]
  conv => rhs; rw [← List.map_id r]
  refine List.map_congr_left fun m _ => ?_
  show (m.1, - -m.2) = m
  have e : - -m.2 = m.2 := by grind
  rw [e]
theorem inv_last (r : List (U × Rat)) : (inv r).getLast? = r.head?.map fun m => (m.1, -m.2) := by
  cases r with
  | nil => rfl
  | cons m r => rw [inv_cons, List.getLast?_concat]; rfl
theorem red_inv : ∀ {r : List (U × Rat)}, Red r → Red (inv r)
  | [], _ => trivial
  | m :: r, h => by
    obtain ⟨h1, h2, h3⟩ := h
    rw [inv_cons]
    refine (red_snoc _ _).mpr ⟨red_inv h3, by show -m.2 ≠ 0; grind, fun n e => ?_⟩
    rw [inv_last] at e
    cases hr : r.head? with
    | none => rw [hr] at e; cases e
    | some k =>
      rw [hr] at e
      cases e
      exact fun z => h2 k hr z.symm
theorem mul_inv : ∀ {r : List (U × Rat)}, Red r → mul r (inv r) = [] := by
  intro r
  induction hn : r.length generalizing r with
  | zero => intro _; rw [List.eq_nil_of_length_eq_zero hn]; rfl
  | succ n ih =>
    intro h
    rcases snoc_or r with rfl | ⟨s, v, x, rfl⟩
    · rfl
    · obtain ⟨h1, h2, h3⟩ := (red_snoc _ _).mp h
      have z : x + -x = 0 := by grind
      rw [inv_snoc, mul_cons, led_snoc, if_pos rfl, if_pos z]
      exact ih (by simpa using hn) h1
theorem inv_mul {r : List (U × Rat)} (h : Red r) : mul (inv r) r = [] := by
  have := mul_inv (red_inv h)
  rwa [inv_inv] at this
/-- the row from one row to another one -/
def btw (a b : List (U × Rat)) : List (U × Rat) := mul (inv a) b
theorem red_btw {a : List (U × Rat)} (h : Red a) (b : List (U × Rat)) : Red (btw a b) := red_mul (red_inv h) b
theorem mul_btw {a b : List (U × Rat)} (ha : Red a) (hb : Red b) : mul a (btw a b) = b := by
  unfold btw
  rw [mul_mul ha _ (red_inv ha), mul_inv ha, nil_mul hb]
theorem btw_mul {a b c : List (U × Rat)} (ha : Red a) (hb : Red b) (hc : Red c) : mul (btw a b) (btw b c) = btw a c := by
  unfold btw
  rw [mul_mul (red_mul (red_inv ha) _) _ (red_inv hb), ← mul_mul (red_inv ha) _ hb, mul_inv hb]
  rfl
theorem btw_self {a : List (U × Rat)} (ha : Red a) : btw a a = [] := inv_mul ha
theorem btw_nil {a b : List (U × Rat)} (ha : Red a) (hb : Red b) (h : btw a b = []) : a = b := by
  have := mul_btw ha hb
  rwa [h] at this
theorem btw_back {a b : List (U × Rat)} (ha : Red a) (hb : Red b) : btw b a = inv (btw a b) := by
  have h1 := btw_mul ha hb ha
  rw [btw_self ha] at h1
  have h2 := congrArg (mul (inv (btw a b))) h1
  rw [mul_mul (red_inv (red_btw ha b)) _ (red_btw ha b), inv_mul (red_btw ha b), nil_mul (red_btw hb a)] at h2
  exact h2
/-! ### distances -/
def on (u : U) (q : Rat) : List (U × Rat) := if q = 0 then [] else [(u, q)]
def dist (u : U) (a b : List (U × Rat)) : Option Rat := match btw a b with
  | [] => some 0
  | [m] => if m.1 = u then some m.2 else none
  | _ => none
theorem on_zero (u : U) : on u 0 = [] := if_pos rfl
theorem dist_of {u : U} {a b : List (U × Rat)} {q : Rat} (h : btw a b = on u q) : dist u a b = some q := by
  unfold dist
  rw [h]
  unfold on
  by_cases c : q = 0
  · rw [if_pos c, c]
  · rw [if_neg c]
    simp
theorem dist_on {u : U} {a b : List (U × Rat)} {q : Rat} (ha : Red a) (h : dist u a b = some q) : btw a b = on u q := by
  have hr := red_btw ha b
  unfold dist at h
  generalize btw a b = w at h hr
  match w, h, hr with
  | [], h, _ => cases h; exact (on_zero u).symm
  | [m], h, hr =>
    simp only at h
    split at h
    · rename_i c
      cases h
      unfold on
      rw [if_neg hr.1, ← c]
    · cases h
  | _ :: _ :: _, h, _ => cases h
theorem mul_on (u : U) (p q : Rat) : mul (on u p) (on u q) = on u (p + q) := by
  have hp : Red (on u p) := by unfold on; split; trivial; exact ⟨by assumption, by simp, trivial⟩
  have e : ∀ x : Rat, on u x = led [] u x := fun _ => rfl
  have : mul (on u p) (on u q) = led (on u p) u q := by
    unfold on
    by_cases c : q = 0
    · rw [if_pos c, c, mul_nil]
      exact (led_zero hp u).symm
    · rw [if_neg c]
      rfl
  rw [this, e p, led_led (r := []) trivial, e]
theorem inv_on (u : U) (p : Rat) : inv (on u p) = on u (-p) := by
  unfold on
  by_cases c : p = 0
  · have : -p = 0 := by grind
    rw [if_pos c, if_pos this]
    rfl
  · have : ¬ -p = 0 := by grind
    rw [if_neg c, if_neg this]
    rfl
theorem dist_add {u : U} {a b c : List (U × Rat)} {p q : Rat} (ha : Red a) (hb : Red b) (hc : Red c) (h1 : dist u a b = some p) (h2 : dist u b c = some q) : dist u a c = some (p + q) := by
  apply dist_of
  rw [← btw_mul ha hb hc, dist_on ha h1, dist_on hb h2, mul_on]
theorem dist_back {u : U} {a b : List (U × Rat)} {p : Rat} (ha : Red a) (hb : Red b) (h : dist u a b = some p) : dist u b a = some (-p) := by
  apply dist_of
  rw [btw_back ha hb, dist_on ha h, inv_on]
theorem dist_self {u : U} {a : List (U × Rat)} (ha : Red a) : dist u a a = some 0 := dist_of (by rw [btw_self ha, on_zero])
/-- from another one of its line all distances are less by one amount -/
theorem dist_shift {u : U} {a b c : List (U × Rat)} {p : Rat} (ha : Red a) (hb : Red b) (hc : Red c) (h : dist u a b = some p) : dist u b c = (dist u a c).map fun q => q - p := by
  cases e : dist u a c with
  | some q =>
    have := dist_add hb ha hc (dist_back ha hb h) e
    rw [this]
    show some (-p + q) = some (q - p)
    congr 1
    grind
  | none =>
    cases e2 : dist u b c with
    | none => rfl
    | some q => rw [dist_add ha hb hc h e2] at e; cases e
theorem dist_both {u v : U} {a b : List (U × Rat)} {p q : Rat} (ha : Red a) (hb : Red b) (huv : u ≠ v) (h1 : dist u a b = some p) (h2 : dist v a b = some q) : a = b := by
  have e1 := dist_on ha h1
  have e2 := dist_on ha h2
  apply btw_nil ha hb
  rw [e1] at e2
  rw [e1]
  unfold on at e2 ⊢
  by_cases c : p = 0
  · rw [if_pos c]
  · rw [if_neg c] at e2
    split at e2
    · cases e2
    · simp at e2
      exact absurd e2.1 huv
end
/-! ### lines: places by their distances -/
def insAt {α : Type} (l : List α) (n : Nat) (x : α) : List α := l.take n ++ [x] ++ l.drop n
def lessN (l : List (Nat × Rat)) (q : Rat) : Nat := (l.filter fun z => decide (z.2 < q)).length
def lineS (d : Nat → Option Rat) (found : List (Nat × Rat)) (i : Nat) : List (Nat × Rat) := match d i with
  | some q => insAt found (lessN found q) (i, q)
  | none => found
def lineF (d : Nat → Option Rat) (n : Nat) : List (Nat × Rat) := (List.range n).foldl (lineS d) []
theorem line_succ (d : Nat → Option Rat) (n : Nat) : lineF d (n + 1) = lineS d (lineF d n) n := by
  unfold lineF
  rw [List.range_succ, List.foldl_append]
  rfl
theorem line_shift {d d' : Nat → Option Rat} {c : Rat} : ∀ {n : Nat}, (∀ i, i < n → d' i = (d i).map fun q => q - c) → lineF d' n = (lineF d n).map fun z => (z.1, z.2 - c)
  | 0, _ => rfl
  | n + 1, h => by
    have ih := line_shift (d := d) (d' := d') (c := c) (n := n) fun i hi => h i (by omega)
    rw [line_succ, line_succ, ih]
    unfold lineS
    rw [h n (by omega)]
    cases d n with
    | none => rfl
    | some q =>
      have e : lessN ((lineF d n).map fun z => (z.1, z.2 - c)) (q - c) = lessN (lineF d n) q := by
        unfold lessN
        rw [List.filter_map, List.length_map]
        congr 1
        refine List.filter_congr fun z _ => ?_
        show decide (z.2 - c < q - c) = decide (z.2 < q)
        congr 1
        exact propext ⟨fun _ => by grind, fun _ => by grind⟩
      show insAt _ (lessN _ (q - c)) (n, q - c) = List.map _ (insAt _ _ _)
      rw [e]
      unfold insAt
      simp [List.map_take, List.map_drop]
def places (d : Nat → Option Rat) (n : Nat) : List Nat := (lineF d n).map (·.1)
theorem places_shift {d d' : Nat → Option Rat} {c : Rat} {n : Nat} (h : ∀ i, i < n → d' i = (d i).map fun q => q - c) : places d' n = places d n := by
  unfold places
  rw [line_shift h, List.map_map]
  rfl
theorem insAt_perm {α : Type} (l : List α) (n : Nat) (x : α) : (insAt l n x).Perm (x :: l) := by
  unfold insAt
  have h1 : (l.take n ++ [x] ++ l.drop n).Perm (x :: (l.take n ++ l.drop n)) := by
    rw [List.append_assoc]
    exact List.perm_middle
  rwa [List.take_append_drop] at h1
theorem places_perm (d : Nat → Option Rat) : ∀ n, (places d n).Perm ((List.range n).filter fun i => (d i).isSome)
  | 0 => .nil
  | n + 1 => by
    have ih := places_perm d n
    unfold places at ih ⊢
    rw [line_succ, List.range_succ, List.filter_append]
    unfold lineS
    cases e : d n with
    | none =>
      have : ([n].filter fun i => (d i).isSome) = [] := by simp [e]
      rw [this, List.append_nil]
      exact ih
    | some q =>
      have : ([n].filter fun i => (d i).isSome) = [n] := by simp [e]
      rw [this]
      refine ((insAt_perm _ _ _).map _).trans ?_
      rw [List.map_cons]
      exact (List.Perm.cons _ ih).trans (List.perm_append_comm (l₁ := [n]))
theorem mem_places {d : Nat → Option Rat} {n i : Nat} : i ∈ places d n ↔ i < n ∧ (d i).isSome = true := by
  rw [(places_perm d n).mem_iff, List.mem_filter, List.mem_range]
theorem places_nodup (d : Nat → Option Rat) (n : Nat) : (places d n).Nodup := by
  rw [(places_perm d n).nodup_iff]
  exact List.Pairwise.filter _ List.nodup_range
theorem line_len (d : Nat → Option Rat) (n : Nat) : (lineF d n).length ≤ n := by
  have h := (places_perm d n).length_eq
  have h2 := List.length_filter_le (fun i => (d i).isSome) (List.range n)
  unfold places at h
  rw [List.length_map] at h
  rw [List.length_range] at h2
  omega
theorem line_mem {d : Nat → Option Rat} : ∀ {n : Nat} {z : Nat × Rat}, z ∈ lineF d n → d z.1 = some z.2
  | 0, z, h => by cases h
  | n + 1, z, h => by
    rw [line_succ] at h
    unfold lineS at h
    cases e : d n with
    | none => rw [e] at h; exact line_mem h
    | some q =>
      rw [e] at h
      rcases List.mem_cons.mp ((insAt_perm _ _ _).mem_iff.mp h) with rfl | h
      · exact e
      · exact line_mem h
end PR

namespace PR
section
variable {U : Type} [DecidableEq U]
theorem red_take : ∀ {r : List (U × Rat)}, Red r → ∀ n, Red (r.take n)
  | [], _, n => by rw [List.take_nil]; trivial
  | m :: r, h, 0 => trivial
  | m :: r, h, n + 1 => by
    obtain ⟨h1, h2, h3⟩ := h
    rw [List.take_succ_cons]
    refine ⟨h1, fun k e => ?_, red_take h3 n⟩
    cases n with
    | zero => rw [List.take_zero] at e; cases e
    | succ n =>
      cases r with
      | nil => cases e
      | cons a r => exact h2 k e
theorem red_dropLast {r : List (U × Rat)} (h : Red r) : Red r.dropLast := by
  rw [List.dropLast_eq_take]
  exact red_take h _
/-- the last two of a reduced row have other units -/
theorem red_last2 {r : List (U × Rat)} {m n : U × Rat} (h : Red r) (h1 : r.getLast? = some m) (h2 : r.dropLast.getLast? = some n) : n.1 ≠ m.1 := by
  rcases snoc_or r with rfl | ⟨s, v, x, rfl⟩
  · cases h1
  · rw [List.getLast?_concat] at h1
    cases h1
    rw [List.dropLast_concat] at h2
    exact ((red_snoc _ _).mp h).2.2 n h2
/-- led on, in two steps as the program goes -/
theorem led_same {r : List (U × Rat)} {m : U × Rat} {u : U} {q : Rat} (h : Red r) (h1 : r.getLast? = some m) (hu : m.1 = u) : led r u q = led r.dropLast u (m.2 + q) := by
  rcases snoc_or r with rfl | ⟨s, v, x, rfl⟩
  · cases h1
  · rw [List.getLast?_concat] at h1
    cases h1
    dsimp only at hu
    subst hu
    rw [led_snoc, if_pos rfl, List.dropLast_concat, led_app ((red_snoc _ _).mp h).2.2]
theorem led_len (r : List (U × Rat)) (u : U) (q : Rat) : (led r u q).length ≤ r.length + 1 := by
  rcases snoc_or r with rfl | ⟨s, v, x, rfl⟩
  · rw [led_nil]
    split <;> simp
  · rw [led_snoc]
    split
    · split <;> simp <;> omega
    · split <;> simp
theorem mul_len : ∀ (w r : List (U × Rat)), (mul r w).length ≤ r.length + w.length
  | [], r => Nat.le_refl _
  | m :: w, r => by
    rw [mul_cons, List.length_cons]
    have h1 := mul_len w (led r m.1 m.2)
    have h2 := led_len r m.1 m.2
    omega
theorem inv_len (r : List (U × Rat)) : (inv r).length = r.length := by unfold inv; simp
theorem inv_get {r : List (U × Rat)} {i : Nat} {m : U × Rat} (hi : i < r.length) (h : r[r.length - 1 - i]? = some m) : (inv r)[i]? = some (m.1, -m.2) := by
  unfold inv
  rw [List.getElem?_map, List.getElem?_reverse hi, h]
  rfl
/-! ### moments -/
abbrev Row (U : Type) := List (U × Rat)
def addP (f : List (Row U)) (x : Row U) : List (Row U) := if x ∈ f then f else f ++ [x]
def addTo (f : List (Row U)) (r : Row U) (n : Nat) : List (Row U) := (List.range n).foldl (fun f i => addP f (r.take (i + 1))) f
def addRow (f : List (Row U)) (r : Row U) : List (Row U) := addTo f r r.length
def momF (rs : List (Row U)) : List (Row U) := rs.foldl addRow [[]]
theorem addTo_zero (f : List (Row U)) (r : Row U) : addTo f r 0 = f := rfl
theorem addTo_succ (f : List (Row U)) (r : Row U) (n : Nat) : addTo f r (n + 1) = addP (addTo f r n) (r.take (n + 1)) := by
  unfold addTo
  rw [List.range_succ, List.foldl_append]
  rfl
theorem momF_snoc (rs : List (Row U)) (r : Row U) : momF (rs ++ [r]) = addRow (momF rs) r := by
  unfold momF
  rw [List.foldl_append]
  rfl
theorem addP_nodup {f : List (Row U)} (h : f.Nodup) (x : Row U) : (addP f x).Nodup := by
  unfold addP
  split
  · exact h
  · rename_i hx
    rw [List.nodup_append]
    refine ⟨h, by simp, fun a ha b hb => ?_⟩
    rw [List.mem_singleton] at hb
    subst hb
    rintro rfl
    exact hx ha
theorem addTo_nodup {f : List (Row U)} (h : f.Nodup) (r : Row U) : ∀ n, (addTo f r n).Nodup
  | 0 => h
  | n + 1 => by rw [addTo_succ]; exact addP_nodup (addTo_nodup h r n) _
theorem mem_addP {f : List (Row U)} {x y : Row U} : y ∈ addP f x ↔ y ∈ f ∨ y = x := by
  unfold addP
  split
  · rename_i h
    exact ⟨.inl, fun z => z.elim id fun e => e ▸ h⟩
  · simp
theorem mem_addTo {f : List (Row U)} {r y : Row U} : ∀ {n}, y ∈ addTo f r n ↔ y ∈ f ∨ ∃ i, i < n ∧ y = r.take (i + 1)
  | 0 => ⟨.inl, fun z => z.elim id fun ⟨_, h, _⟩ => by omega⟩
  | n + 1 => by
    rw [addTo_succ, mem_addP, mem_addTo]
    constructor
    · rintro ((h | ⟨i, hi, e⟩) | e)
      · exact .inl h
      · exact .inr ⟨i, by omega, e⟩
      · exact .inr ⟨n, by omega, e⟩
    · rintro (h | ⟨i, hi, e⟩)
      · exact .inl (.inl h)
      · by_cases c : i = n
        · exact .inr (c ▸ e)
        · exact .inl (.inr ⟨i, by omega, e⟩)
theorem mem_momF {rs : List (Row U)} {y : Row U} : y ∈ momF rs ↔ y = [] ∨ ∃ r ∈ rs, ∃ i, i < r.length ∧ y = r.take (i + 1) := by
  have gen : ∀ (rs f : List (Row U)), y ∈ rs.foldl addRow f ↔ y ∈ f ∨ ∃ r ∈ rs, ∃ i, i < r.length ∧ y = r.take (i + 1) := by
    intro rs
    induction rs with
    | nil => intro f; simp
    | cons r rs ih =>
      intro f
      rw [List.foldl_cons, ih]
      unfold addRow
      rw [mem_addTo]
      simp only [List.mem_cons, exists_eq_or_imp]
      exact or_assoc
  unfold momF
  rw [gen]
  simp
theorem momF_nodup (rs : List (Row U)) : (momF rs).Nodup := by
  have gen : ∀ (rs f : List (Row U)), f.Nodup → (rs.foldl addRow f).Nodup := by
    intro rs
    induction rs with
    | nil => intro f h; exact h
    | cons r rs ih => intro f h; exact ih _ (addTo_nodup h r _)
  exact gen rs _ (by simp)
theorem momF_red {rs : List (Row U)} (h : ∀ r ∈ rs, Red r) : ∀ y ∈ momF rs, Red y := by
  intro y hy
  rcases mem_momF.mp hy with rfl | ⟨r, hr, i, _, rfl⟩
  · trivial
  · exact red_take (h r hr) _
theorem momF_pre (rs : List (Row U)) : ∃ t, momF rs = [] :: t := by
  have gen : ∀ (rs f : List (Row U)), (∃ t, f = [] :: t) → ∃ t, rs.foldl addRow f = [] :: t := by
    intro rs
    induction rs with
    | nil => intro f h; exact h
    | cons r rs ih =>
      intro f h
      refine ih _ ?_
      unfold addRow
      generalize r.length = n
      induction n with
      | zero => exact h
      | succ n ih2 =>
        obtain ⟨t, e⟩ := ih2
        rw [addTo_succ, e]
        unfold addP
        split
        · exact ⟨t, rfl⟩
        · exact ⟨t ++ [r.take (n + 1)], rfl⟩
  exact gen rs _ ⟨[], rfl⟩
theorem mom_take {rs : List (Row U)} {y : Row U} (h : y ∈ momF rs) (k : Nat) : y.take k ∈ momF rs := by
  rcases mem_momF.mp h with rfl | ⟨r, hr, i, hi, rfl⟩
  · rw [List.take_nil]; exact h
  · rw [List.take_take]
    cases e : min k (i + 1) with
    | zero => rw [List.take_zero]; exact mem_momF.mpr (.inl rfl)
    | succ j => exact mem_momF.mpr (.inr ⟨r, hr, j, by omega, rfl⟩)
theorem mom_self {rs : List (Row U)} {r : Row U} (h : r ∈ rs) : r ∈ momF rs := by
  cases e : r with
  | nil => exact mem_momF.mpr (.inl rfl)
  | cons a s =>
    rw [← e]
    refine mem_momF.mpr (.inr ⟨r, h, r.length - 1, by rw [e, List.length_cons]; omega, ?_⟩)
    rw [List.take_of_length_le (by rw [e, List.length_cons]; omega)]
theorem addTo_len (f : List (Row U)) (r : Row U) : ∀ n, f.length ≤ (addTo f r n).length ∧ (addTo f r n).length ≤ f.length + n
  | 0 => ⟨Nat.le_refl _, Nat.le_refl _⟩
  | n + 1 => by
    have ih := addTo_len f r n
    rw [addTo_succ]
    unfold addP
    split
    · omega
    · rw [List.length_append, List.length_singleton]; omega
theorem momF_len {k : Nat} : ∀ rs : List (Row U), (∀ r ∈ rs, r.length ≤ k) → (momF rs).length ≤ 1 + rs.length * k := by
  have gen : ∀ (rs f : List (Row U)), (∀ r ∈ rs, r.length ≤ k) → (rs.foldl addRow f).length ≤ f.length + rs.length * k := by
    intro rs
    induction rs with
    | nil => intro f _; simp
    | cons r rs ih =>
      intro f h
      have h1 := ih (addRow f r) fun x hx => h x (List.mem_cons_of_mem _ hx)
      have h2 := (addTo_len f r r.length).2
      have h3 := h r (by simp)
      rw [List.foldl_cons, List.length_cons, Nat.succ_mul]
      unfold addRow at h1 ⊢
      omega
  intro rs h
  exact gen rs [[]] h
/-! ### rows by names -/
variable {N : Type} [DecidableEq N]
abbrev Cue (N U : Type) := N × N × U × Rat
def rowOf (rows : List (N × Row U)) (n : N) : Row U := ((rows.find? fun z => decide (z.1 = n)).map (·.2)).getD []
def rowsS (rows : List (N × Row U)) (c : Cue N U) : List (N × Row U) := rows ++ [(c.1, led (rowOf rows c.2.1) c.2.2.1 c.2.2.2)]
def rowsF (st : N) (cs : List (Cue N U)) : List (N × Row U) := cs.foldl rowsS [(st, [])]
theorem rowsF_snoc (st : N) (cs : List (Cue N U)) (c : Cue N U) : rowsF st (cs ++ [c]) = rowsS (rowsF st cs) c := by
  unfold rowsF
  rw [List.foldl_append]
  rfl
theorem list_snoc {α : Type} {P : List α → Prop} (h0 : P []) (h1 : ∀ l a, P l → P (l ++ [a])) : ∀ l, P l := by
  intro l
  induction hn : l.length generalizing l with
  | zero => rw [List.eq_nil_of_length_eq_zero hn]; exact h0
  | succ n ih =>
    rcases List.eq_nil_or_concat l with h | ⟨s, b, h⟩
    · rw [h] at hn; cases hn
    · rw [List.concat_eq_append] at h
      subst h
      exact h1 s b (ih s (by simpa using hn))
theorem rowsF_names (st : N) : ∀ cs : List (Cue N U), (rowsF st cs).map (·.1) = st :: cs.map (·.1) := by
  refine list_snoc rfl fun cs c ih => ?_
  rw [rowsF_snoc]
  unfold rowsS
  rw [List.map_append, ih, List.map_append]
  rfl
theorem rowsF_len (st : N) (cs : List (Cue N U)) : (rowsF st cs).length = cs.length + 1 := by
  have := congrArg List.length (rowsF_names st cs)
  simpa using this
theorem rowOf_red {rows : List (N × Row U)} (h : ∀ z ∈ rows, Red z.2) (n : N) : Red (rowOf rows n) := by
  unfold rowOf
  cases e : rows.find? fun z => decide (z.1 = n) with
  | none => trivial
  | some z => exact h z (List.mem_of_find?_eq_some e)
theorem rowsF_red (st : N) : ∀ cs : List (Cue N U), ∀ z ∈ rowsF st cs, Red z.2 := by
  refine list_snoc ?_ fun cs c ih z hz => ?_
  · intro z hz
    rw [show rowsF st ([] : List (Cue N U)) = [(st, [])] from rfl, List.mem_singleton] at hz
    subst hz
    trivial
  · rw [rowsF_snoc] at hz
    unfold rowsS at hz
    rcases List.mem_append.mp hz with hz | hz
    · exact ih z hz
    · rw [List.mem_singleton] at hz
      subst hz
      exact red_led (rowOf_red ih _) _ _
theorem rowOf_len {rows : List (N × Row U)} {k : Nat} (h : ∀ z ∈ rows, z.2.length ≤ k) (n : N) : (rowOf rows n).length ≤ k := by
  unfold rowOf
  cases e : rows.find? fun z => decide (z.1 = n) with
  | none => exact Nat.zero_le _
  | some z => exact h z (List.mem_of_find?_eq_some e)
theorem rowsF_rlen (st : N) : ∀ cs : List (Cue N U), ∀ z ∈ rowsF st cs, z.2.length ≤ cs.length := by
  refine list_snoc ?_ fun cs c ih z hz => ?_
  · intro z hz
    rw [show rowsF st ([] : List (Cue N U)) = [(st, [])] from rfl, List.mem_singleton] at hz
    subst hz
    exact Nat.zero_le _
  · rw [rowsF_snoc] at hz
    unfold rowsS at hz
    rw [List.length_append, List.length_singleton]
    rcases List.mem_append.mp hz with hz | hz
    · exact Nat.le_succ_of_le (ih z hz)
    · rw [List.mem_singleton] at hz
      subst hz
      exact Nat.le_trans (led_len _ _ _) (Nat.succ_le_succ (rowOf_len ih _))
/-- the rows of the cues, in their order -/
def cueRows (st : N) (cs : List (Cue N U)) : List (Row U) := (rowsF st cs).tail.map (·.2)
theorem rowsF_cons (st : N) : ∀ cs : List (Cue N U), ∃ t, rowsF st cs = (st, []) :: t := by
  refine list_snoc ⟨[], rfl⟩ fun cs c ⟨t, e⟩ => ?_
  rw [rowsF_snoc, e]
  exact ⟨_, rfl⟩
theorem cueRows_snoc (st : N) (cs : List (Cue N U)) (c : Cue N U) : cueRows st (cs ++ [c]) = cueRows st cs ++ [led (rowOf (rowsF st cs) c.2.1) c.2.2.1 c.2.2.2] := by
  unfold cueRows
  rw [rowsF_snoc]
  obtain ⟨t, e⟩ := rowsF_cons st cs
  rw [e]
  unfold rowsS
  rw [List.cons_append, List.tail_cons, List.tail_cons, List.map_append]
  rfl
def momC (st : N) (cs : List (Cue N U)) : List (Row U) := momF (cueRows st cs)
theorem cueRows_red (st : N) (cs : List (Cue N U)) : ∀ r ∈ cueRows st cs, Red r := by
  intro r hr
  obtain ⟨z, hz, rfl⟩ := List.mem_map.mp hr
  exact rowsF_red st cs z (List.mem_of_mem_tail hz)
theorem momC_red (st : N) (cs : List (Cue N U)) : ∀ r ∈ momC st cs, Red r := momF_red (cueRows_red st cs)
theorem momC_nodup (st : N) (cs : List (Cue N U)) : (momC st cs).Nodup := momF_nodup _
/-- names once each, parents known -/
inductive Good (st : N) : List (Cue N U) → Prop
  | nil : Good st []
  | snoc {cs : List (Cue N U)} {c : Cue N U} : Good st cs → c.1 ∉ st :: cs.map (·.1) → c.2.1 ∈ st :: cs.map (·.1) → Good st (cs ++ [c])
theorem Good.nodup {st : N} {cs : List (Cue N U)} (h : Good st cs) : (st :: cs.map (·.1)).Nodup := by
  induction h with
  | nil => simp
  | snoc _ h1 _ ih =>
    rw [List.map_append, ← List.cons_append, List.nodup_append]
    refine ⟨ih, by simp, fun a ha b hb => ?_⟩
    rw [List.map_singleton, List.mem_singleton] at hb
    subst hb
    rintro rfl
    exact h1 ha
theorem rowOf_at {rows : List (N × Row U)} (hn : (rows.map (·.1)).Nodup) {z : N × Row U} (hz : z ∈ rows) : rowOf rows z.1 = z.2 := by
  unfold rowOf
  have : rows.find? (fun y => decide (y.1 = z.1)) = some z := by
    induction rows with
    | nil => cases hz
    | cons a rows ih =>
      rw [List.map_cons, List.nodup_cons] at hn
      rcases List.mem_cons.mp hz with rfl | hz
      · rw [List.find?_cons_of_pos (by simp)]
      · rw [List.find?_cons_of_neg, ih hn.2 hz]
        simp only [decide_eq_true_eq]
        intro e
        exact hn.1 (e ▸ List.mem_map_of_mem hz)
  rw [this]
  rfl
theorem Good.at {st : N} {cs : List (Cue N U)} (h : Good st cs) : ∀ {i : Nat} {c : Cue N U}, cs[i]? = some c → c.1 ∉ st :: (cs.take i).map (·.1) ∧ c.2.1 ∈ st :: (cs.take i).map (·.1) := by
  induction h with
  | nil => intro i c e; cases e
  | @snoc cs d g h1 h2 ih =>
    intro i c e
    have hi := (List.getElem?_eq_some_iff.mp e).1
    rw [List.length_append, List.length_singleton] at hi
    by_cases l : i < cs.length
    · rw [List.getElem?_append_left l] at e
      rw [List.take_append_of_le_length (by omega)]
      exact ih e
    · have ei : i = cs.length := by omega
      subst ei
      rw [List.getElem?_concat_length] at e
      cases e
      rw [List.take_append_of_le_length (Nat.le_refl _), List.take_length]
      exact ⟨h1, h2⟩
theorem cueRows_len (st : N) (cs : List (Cue N U)) : (cueRows st cs).length = cs.length := by
  unfold cueRows
  rw [List.length_map, List.length_tail, rowsF_len]
  omega
theorem cue_row_at {st : N} {cs : List (Cue N U)} (h : Good st cs) {i : Nat} {c : Cue N U} (e : cs[i]? = some c) : (cueRows st cs)[i]? = some (rowOf (rowsF st cs) c.1) := by
  have hi := (List.getElem?_eq_some_iff.mp e).1
  obtain ⟨t, et⟩ := rowsF_cons st cs
  have hn := rowsF_names st cs
  have hl := rowsF_len st cs
  rw [et, List.length_cons] at hl
  have ht : t[i]? = some t[i] := List.getElem?_eq_getElem (by omega)
  have e1 : (t[i]).1 = c.1 := by
    rw [et, List.map_cons, List.cons.injEq] at hn
    have z := congrArg (·[i]?) hn.2
    simp only [List.getElem?_map, ht, e, Option.map_some, Option.some.injEq] at z
    exact z
  have e2 : rowOf (rowsF st cs) (t[i]).1 = (t[i]).2 := rowOf_at (by rw [hn]; exact h.nodup) (by rw [et]; exact List.mem_cons_of_mem _ (List.getElem_mem _))
  unfold cueRows
  rw [et, List.tail_cons, List.getElem?_map, ht, ← e1, ← et, e2]
  rfl
theorem cueRows_rlen (st : N) (cs : List (Cue N U)) : ∀ r ∈ cueRows st cs, r.length ≤ cs.length := by
  intro r hr
  obtain ⟨z, hz, rfl⟩ := List.mem_map.mp hr
  exact rowsF_rlen st cs z (List.mem_of_mem_tail hz)
theorem Good.mem {st : N} {cs : List (Cue N U)} {c : Cue N U} (h : c ∈ cs) : c.1 ∈ st :: cs.map (·.1) := List.mem_cons_of_mem _ (List.mem_map_of_mem h)
theorem mom_rlen (st : N) (cs : List (Cue N U)) : ∀ r ∈ momC st cs, r.length ≤ cs.length := by
  intro r hr
  rcases mem_momF.mp hr with rfl | ⟨y, hy, i, _, rfl⟩
  · exact Nat.zero_le _
  · obtain ⟨z, hz, rfl⟩ := List.mem_map.mp hy
    have := rowsF_rlen st cs z (List.mem_of_mem_tail hz)
    rw [List.length_take]
    omega
/-! ### sizes -/
structure Size (P : Nat → Rat → Prop) : Prop where
  add : ∀ {m n : Nat} {x y : Rat}, P m x → P n y → P (m + n) (x + y)
  neg : ∀ {n : Nat} {x : Rat}, P n x → P n (-x)
  mono : ∀ {m n : Nat} {x : Rat}, P m x → m ≤ n → P n x
def Wt (P : Nat → Rat → Prop) : Nat → List (U × Rat) → Prop
  | _, [] => True
  | n, m :: r => ∃ i j, i + j ≤ n ∧ P i m.2 ∧ Wt P j r
section
variable {P : Nat → Rat → Prop}
theorem Wt.mono : ∀ {r : List (U × Rat)} {m n : Nat}, Wt P m r → m ≤ n → Wt P n r
  | [], _, _, _, _ => trivial
  | _ :: _, _, _, ⟨i, j, h, h1, h2⟩, l => ⟨i, j, by omega, h1, h2⟩
theorem wt_app : ∀ {a b : List (U × Rat)} {n : Nat}, Wt P n (a ++ b) ↔ ∃ i j, i + j ≤ n ∧ Wt P i a ∧ Wt P j b
  | [], b, n => ⟨fun h => ⟨0, n, by omega, trivial, h⟩, fun ⟨i, j, l, _, h⟩ => h.mono (by omega)⟩
  | m :: a, b, n => by
    constructor
    · rintro ⟨i, j, l, h1, h2⟩
      obtain ⟨i2, j2, l2, h3, h4⟩ := wt_app.mp h2
      exact ⟨i + i2, j2, by omega, ⟨i, i2, by omega, h1, h3⟩, h4⟩
    · rintro ⟨i, j, l, ⟨i2, j2, l2, h1, h2⟩, h3⟩
      exact ⟨i2, j2 + j, by omega, h1, wt_app.mpr ⟨j2, j, by omega, h2, h3⟩⟩
theorem wt_one {u : U} {q : Rat} {n : Nat} : Wt P n [(u, q)] ↔ ∃ i, i ≤ n ∧ P i q := ⟨fun ⟨i, j, l, h, _⟩ => ⟨i, by omega, h⟩, fun ⟨i, l, h⟩ => ⟨i, 0, by omega, h, trivial⟩⟩
theorem Wt.led (S : Size P) {r : List (U × Rat)} {u : U} {q : Rat} {m n : Nat} (h : Wt P m r) (hq : P n q) : Wt P (m + n) (led r u q) := by
  rcases snoc_or r with rfl | ⟨s, v, x, rfl⟩
  · rw [led_nil]
    split
    · trivial
    · exact wt_one.mpr ⟨n, by omega, hq⟩
  · rw [led_snoc]
    obtain ⟨i, j, l, h1, h2⟩ := wt_app.mp h
    obtain ⟨k, l2, h3⟩ := wt_one.mp h2
    by_cases c : v = u
    · rw [if_pos c]
      split
      · exact h1.mono (by omega)
      · exact wt_app.mpr ⟨i, j + n, by omega, h1, wt_one.mpr ⟨k + n, by omega, S.add h3 hq⟩⟩
    · rw [if_neg c]
      split
      · exact h.mono (by omega)
      · exact wt_app.mpr ⟨m, n, by omega, h, wt_one.mpr ⟨n, by omega, hq⟩⟩
theorem Wt.mul (S : Size P) : ∀ {w r : List (U × Rat)} {m n : Nat}, Wt P m r → Wt P n w → Wt P (m + n) (mul r w)
  | [], _, _, _, h, _ => h.mono (by omega)
  | x :: w, r, m, n, h, ⟨i, j, l, h1, h2⟩ => by
    rw [mul_cons]
    exact (Wt.mul S (h.led S (u := x.1) h1) h2).mono (by omega)
theorem Wt.inv (S : Size P) : ∀ {r : List (U × Rat)} {n : Nat}, Wt P n r → Wt P n (inv r)
  | [], _, _ => trivial
  | x :: r, n, ⟨i, j, l, h1, h2⟩ => by
    rw [inv_cons]
    exact wt_app.mpr ⟨j, i, by omega, Wt.inv S h2, wt_one.mpr ⟨i, by omega, S.neg h1⟩⟩
theorem Wt.btw (S : Size P) {a b : List (U × Rat)} {m n : Nat} (ha : Wt P m a) (hb : Wt P n b) : Wt P (m + n) (btw a b) := (ha.inv S).mul S hb
theorem Wt.take : ∀ {r : List (U × Rat)} {n : Nat}, Wt P n r → ∀ k, Wt P n (r.take k)
  | [], _, _, k => by rw [List.take_nil]; trivial
  | _ :: _, _, _, 0 => trivial
  | _ :: r, n, ⟨i, j, l, h1, h2⟩, k + 1 => ⟨i, j, l, h1, h2.take k⟩
theorem Wt.mem (S : Size P) : ∀ {r : List (U × Rat)} {n : Nat}, Wt P n r → ∀ m ∈ r, P n m.2
  | _ :: r, n, ⟨i, j, l, h1, h2⟩, m, hm => by
    rcases List.mem_cons.mp hm with rfl | hm
    · exact S.mono h1 (by omega)
    · exact S.mono (h2.mem S m hm) (by omega)
theorem rowOf_wt {rows : List (N × Row U)} {n : Nat} (h : ∀ z ∈ rows, Wt P n z.2) (k : N) : Wt P n (rowOf rows k) := by
  unfold rowOf
  cases e : rows.find? fun z => decide (z.1 = k) with
  | none => trivial
  | some z => exact h z (List.mem_of_find?_eq_some e)
theorem rowsF_wt (S : Size P) (st : N) : ∀ cs : List (Cue N U), (∀ c ∈ cs, P 1 c.2.2.2) → ∀ z ∈ rowsF st cs, Wt P cs.length z.2 := by
  refine list_snoc ?_ fun cs c ih hp z hz => ?_
  · intro _ z hz
    rw [show rowsF st ([] : List (Cue N U)) = [(st, [])] from rfl, List.mem_singleton] at hz
    subst hz
    trivial
  · have hi := ih fun x hx => hp x (List.mem_append_left _ hx)
    rw [rowsF_snoc] at hz
    unfold rowsS at hz
    rw [List.length_append, List.length_singleton]
    rcases List.mem_append.mp hz with hz | hz
    · exact (hi z hz).mono (by omega)
    · rw [List.mem_singleton] at hz
      subst hz
      exact (rowOf_wt hi _).led S (hp c (by simp))
theorem momC_wt (S : Size P) (st : N) (cs : List (Cue N U)) (h : ∀ c ∈ cs, P 1 c.2.2.2) : ∀ r ∈ momC st cs, Wt P cs.length r := by
  intro r hr
  rcases mem_momF.mp hr with rfl | ⟨y, hy, i, _, rfl⟩
  · trivial
  · obtain ⟨z, hz, rfl⟩ := List.mem_map.mp hy
    exact (rowsF_wt S st cs h z (List.mem_of_mem_tail hz)).take _
end
end
end PR

/-! a cue replaced by another one -/
namespace PR
section
variable {N U : Type} [DecidableEq N] [DecidableEq U]
theorem Good.inv {st : N} {ds : List (Cue N U)} (h : Good st ds) : ∀ {l : List (Cue N U)} {x : Cue N U}, ds = l ++ [x] → Good st l ∧ x.1 ∉ st :: l.map (·.1) ∧ x.2.1 ∈ st :: l.map (·.1) := by
  intro l x e
  cases h with
  | nil => simp at e
  | snoc h1 h2 h3 =>
    obtain ⟨e1, e2⟩ := List.append_inj' e rfl
    subst e1
    cases e2
    exact ⟨h1, h2, h3⟩
theorem Good.repl {st : N} {a : List (Cue N U)} {c c' : Cue N U} (h1 : c'.1 ∉ st :: a.map (·.1)) (h2 : c'.2.1 ∈ st :: a.map (·.1)) : ∀ b : List (Cue N U), Good st (a ++ [c] ++ b) → (∀ d ∈ b, d.1 ≠ c'.1) → (c'.1 = c.1 ∨ ∀ d ∈ b, d.2.1 ≠ c.1) → Good st (a ++ [c'] ++ b) := by
  refine list_snoc ?_ fun b d ih h h3 h4 => ?_
  · intro h _ _
    rw [List.append_nil] at h ⊢
    exact .snoc (h.inv rfl).1 h1 h2
  · rw [← List.append_assoc] at h ⊢
    obtain ⟨g1, g2, g3⟩ := h.inv rfl
    have hd : d ∈ b ++ [d] := by simp
    refine .snoc (ih g1 (fun x hx => h3 x (List.mem_append_left _ hx)) (h4.imp id fun z x hx => z x (List.mem_append_left _ hx))) ?_ ?_
    · intro z
      rcases List.mem_cons.mp z with e | z
      · exact g2 (by rw [e]; simp)
      · rw [List.map_append, List.map_append] at z
        rcases List.mem_append.mp z with z | z
        · rcases List.mem_append.mp z with z | z
          · exact g2 (List.mem_cons_of_mem _ (by rw [List.map_append, List.map_append]; exact List.mem_append_left _ (List.mem_append_left _ z)))
          · have e : d.1 = c'.1 := by simpa using z
            exact h3 d hd e
        · exact g2 (List.mem_cons_of_mem _ (by rw [List.map_append]; exact List.mem_append_right _ z))
    · rcases List.mem_cons.mp g3 with e | z
      · rw [e]; simp
      · refine List.mem_cons_of_mem _ ?_
        rw [List.map_append, List.map_append] at z ⊢
        rcases List.mem_append.mp z with z | z
        · rcases List.mem_append.mp z with z | z
          · exact List.mem_append_left _ (List.mem_append_left _ z)
          · have e : d.2.1 = c.1 := by simpa using z
            rcases h4 with q | q
            · rw [e, ← q]
              exact List.mem_append_left _ (List.mem_append_right _ (by simp))
            · exact absurd e (q d hd)
        · exact List.mem_append_right _ z
end
end PR

namespace PR
/-! rows whose shifts are all turned: units exchanged, amounts of a unit multiplied -/
section
variable {U : Type} [DecidableEq U] {N : Type} [DecidableEq N]
/-- units by s, amounts of the unit u by m u -/
structure Trn (s : U → U) (m : U → Rat) : Prop where
  inj : ∀ u v, s u = s v → u = v
  ne : ∀ u, m u ≠ 0
def tr (s : U → U) (m : U → Rat) (x : U × Rat) : U × Rat := (s x.1, m x.1 * x.2)
def trR (s : U → U) (m : U → Rat) (r : Row U) : Row U := r.map (tr s m)
def trC (s : U → U) (m : U → Rat) (c : Cue N U) : Cue N U := (c.1, c.2.1, s c.2.2.1, m c.2.2.1 * c.2.2.2)
variable {s : U → U} {m : U → Rat}
theorem Trn.zero (T : Trn s m) (u : U) (q : Rat) : m u * q = 0 ↔ q = 0 := by
  have := T.ne u
  constructor
  · intro h
    rcases Rat.mul_eq_zero.mp h with h | h
    · exact absurd h this
    · exact h
  · rintro rfl
    exact Rat.mul_zero _
theorem Trn.canc (T : Trn s m) {u : U} {p q : Rat} (h : m u * p = m u * q) : p = q := by
  have h1 : m u * (p - q) = 0 := by grind
  have := (T.zero u _).mp h1
  grind
theorem Trn.one (T : Trn s m) {x y : U × Rat} (h : tr s m x = tr s m y) : x = y := by
  obtain ⟨u, p⟩ := x
  obtain ⟨v, q⟩ := y
  unfold tr at h
  simp only [Prod.mk.injEq] at h
  obtain ⟨h1, h2⟩ := h
  have e := T.inj _ _ h1
  subst e
  rw [T.canc h2]
theorem Trn.row (T : Trn s m) : ∀ {x y : Row U}, trR s m x = trR s m y → x = y
  | [], [], _ => rfl
  | [], _ :: _, h => by simp [trR] at h
  | _ :: _, [], h => by simp [trR] at h
  | a :: x, b :: y, h => by
    unfold trR at h
    simp only [List.map_cons, List.cons.injEq] at h
    rw [T.one h.1, T.row (x := x) (y := y) h.2]
theorem Trn.led (T : Trn s m) (r : Row U) (u : U) (q : Rat) : led (trR s m r) (s u) (m u * q) = trR s m (led r u q) := by
  rcases snoc_or r with rfl | ⟨t, v, x, rfl⟩
  · show PR.led [] (s u) (m u * q) = _
    rw [led_nil, led_nil]
    by_cases h : q = 0
    · rw [if_pos h, if_pos ((T.zero u q).mpr h)]
      rfl
    · rw [if_neg h, if_neg fun z => h ((T.zero u q).mp z)]
      rfl
  · have e : trR s m (t ++ [(v, x)]) = trR s m t ++ [(s v, m v * x)] := by unfold trR; rw [List.map_append]; rfl
    rw [e, led_snoc, led_snoc]
    by_cases c : v = u
    · subst c
      rw [if_pos rfl, if_pos rfl]
      have e2 : m v * x + m v * q = m v * (x + q) := by grind
      rw [e2]
      by_cases h : x + q = 0
      · rw [if_pos h, if_pos ((T.zero v _).mpr h)]
      · rw [if_neg h, if_neg fun z => h ((T.zero v _).mp z)]
        unfold trR
        rw [List.map_append]
        rfl
    · rw [if_neg c, if_neg fun z => c (T.inj _ _ z)]
      by_cases h : q = 0
      · rw [if_pos h, if_pos ((T.zero u q).mpr h), e]
      · rw [if_neg h, if_neg fun z => h ((T.zero u q).mp z)]
        unfold trR
        rw [List.map_append, List.map_append]
        rfl
theorem Trn.addP (T : Trn s m) (f : List (Row U)) (x : Row U) : addP (f.map (trR s m)) (trR s m x) = (addP f x).map (trR s m) := by
  unfold PR.addP
  by_cases h : x ∈ f
  · rw [if_pos h, if_pos (List.mem_map_of_mem h)]
  · rw [if_neg h, if_neg fun z => h (by obtain ⟨y, hy, e⟩ := List.mem_map.mp z; rw [← T.row e]; exact hy), List.map_append]
    rfl
theorem Trn.addTo (T : Trn s m) (f : List (Row U)) (r : Row U) : ∀ n, addTo (f.map (trR s m)) (trR s m r) n = (addTo f r n).map (trR s m)
  | 0 => rfl
  | n + 1 => by
    rw [addTo_succ, addTo_succ, T.addTo f r n, ← T.addP]
    unfold trR
    rw [List.map_take]
theorem Trn.momF (T : Trn s m) (rs : List (Row U)) : momF (rs.map (trR s m)) = (momF rs).map (trR s m) := by
  refine list_snoc (P := fun rs => PR.momF (rs.map (trR s m)) = (PR.momF rs).map (trR s m)) rfl (fun l a ih => ?_) rs
  rw [List.map_append, List.map_singleton, momF_snoc, momF_snoc, ih]
  unfold addRow
  rw [← T.addTo]
  unfold trR
  rw [List.length_map]
theorem rowOf_tr (rows : List (N × Row U)) (n : N) : rowOf (rows.map fun z => (z.1, trR s m z.2)) n = trR s m (rowOf rows n) := by
  unfold rowOf
  rw [List.find?_map]
  have e : ((fun z : N × Row U => decide (z.1 = n)) ∘ fun z : N × Row U => (z.1, trR s m z.2)) = fun z => decide (z.1 = n) := rfl
  rw [e]
  cases rows.find? fun z => decide (z.1 = n) with
  | none => rfl
  | some z => rfl
theorem Trn.rows (T : Trn s m) (st : N) (cs : List (Cue N U)) : rowsF st (cs.map (trC s m)) = (rowsF st cs).map fun z => (z.1, trR s m z.2) := by
  refine list_snoc (P := fun cs => rowsF st (cs.map (trC s m)) = (rowsF st cs).map fun z => (z.1, trR s m z.2)) rfl (fun l c ih => ?_) cs
  rw [List.map_append, List.map_singleton, rowsF_snoc, rowsF_snoc, ih]
  unfold rowsS
  rw [List.map_append, List.map_singleton]
  show _ ++ [(c.1, PR.led (rowOf ((rowsF st l).map fun z => (z.1, trR s m z.2)) c.2.1) (s c.2.2.1) (m c.2.2.1 * c.2.2.2))] = _
  rw [rowOf_tr, T.led]
theorem Trn.cueRows (T : Trn s m) (st : N) (cs : List (Cue N U)) : cueRows st (cs.map (trC s m)) = (cueRows st cs).map (trR s m) := by
  unfold PR.cueRows
  rw [T.rows, List.map_tail, List.map_map, List.map_map, List.map_tail]
  rfl
theorem Trn.mom (T : Trn s m) (st : N) (cs : List (Cue N U)) : (momC st (cs.map (trC s m))).length = (momC st cs).length := by
  unfold momC
  rw [T.cueRows, T.momF, List.length_map]
theorem Good.tr {st : N} {cs : List (Cue N U)} (h : Good st cs) : Good st (cs.map (trC s m)) := by
  induction h with
  | nil => exact .nil
  | snoc h h1 h2 ih =>
    rw [List.map_append, List.map_singleton]
    have e : (List.map (trC s m) ‹List (Cue N U)›).map (·.1) = (‹List (Cue N U)›).map (·.1) := by rw [List.map_map]; rfl
    refine .snoc ih ?_ ?_
    · rw [List.map_map]
      exact h1
    · rw [List.map_map]
      exact h2
end
end PR

namespace PR
section
variable {U N : Type} [DecidableEq U] [DecidableEq N]
/-! ### no more moments than cues and the start -/
theorem addTo_in {f : List (Row U)} {r : Row U} : ∀ {n : Nat}, (∀ i, i < n → r.take (i + 1) ∈ f) → addTo f r n = f
  | 0, _ => rfl
  | n + 1, h => by
    rw [addTo_succ, addTo_in (fun i hi => h i (by omega))]
    unfold addP
    rw [if_pos (h n (by omega))]
theorem addRow_le {f : List (Row U)} {r : Row U} (h : ∀ i, i + 1 < r.length → r.take (i + 1) ∈ f) : (addRow f r).length ≤ f.length + 1 := by
  unfold addRow
  cases hn : r.length with
  | zero => rw [addTo_zero]; omega
  | succ n =>
    rw [addTo_succ, addTo_in (fun i hi => h i (by omega))]
    unfold addP
    split
    · omega
    · rw [List.length_append, List.length_singleton]
      exact Nat.le_refl _
theorem led_pre (r : Row U) (u : U) (q : Rat) (i : Nat) (hi : i + 1 < (led r u q).length) : ∃ k, (led r u q).take (i + 1) = r.take k := by
  rcases snoc_or r with rfl | ⟨s, v, x, rfl⟩
  · rw [led_nil] at hi
    split at hi <;> simp at hi
  · rw [led_snoc] at hi ⊢
    split
    · rename_i hv
      rw [if_pos hv] at hi
      split
      · rename_i hz
        rw [if_pos hz] at hi
        exact ⟨i + 1, by rw [List.take_append_of_le_length (by omega)]⟩
      · rename_i hz
        rw [if_neg hz, List.length_append, List.length_singleton] at hi
        exact ⟨i + 1, by rw [List.take_append_of_le_length (by omega), List.take_append_of_le_length (by omega)]⟩
    · rename_i hv
      rw [if_neg hv] at hi
      split
      · exact ⟨i + 1, rfl⟩
      · rename_i hz
        rw [if_neg hz, List.length_append (as := s ++ [(v, x)]), List.length_singleton] at hi
        exact ⟨i + 1, by rw [List.take_append_of_le_length (by omega)]⟩
theorem rowOf_mom (st : N) (cs : List (Cue N U)) (n : N) : rowOf (rowsF st cs) n ∈ momC st cs := by
  unfold rowOf
  cases h : (rowsF st cs).find? fun z => decide (z.1 = n) with
  | none => exact mem_momF.mpr (.inl rfl)
  | some z =>
    have hz := List.mem_of_find?_eq_some h
    show z.2 ∈ momF (cueRows st cs)
    obtain ⟨t, e⟩ := rowsF_cons st cs
    rw [e] at hz
    rcases List.mem_cons.mp hz with rfl | hz
    · exact mem_momF.mpr (.inl rfl)
    · refine mom_self ?_
      unfold cueRows
      rw [e]
      exact List.mem_map_of_mem hz
theorem mom_le (st : N) : ∀ cs : List (Cue N U), (momC st cs).length ≤ cs.length + 1 := by
  refine list_snoc (Nat.le_refl _) fun cs c ih => ?_
  have e : momC st (cs ++ [c]) = addRow (momC st cs) (led (rowOf (rowsF st cs) c.2.1) c.2.2.1 c.2.2.2) := by
    unfold momC
    rw [cueRows_snoc, momF_snoc]
  rw [e, List.length_append, List.length_singleton]
  refine Nat.le_trans (addRow_le fun i hi => ?_) (Nat.succ_le_succ ih)
  obtain ⟨k, ek⟩ := led_pre _ _ _ i hi
  rw [ek]
  exact mom_take (rowOf_mom st cs c.2.1) k
/-! ### cues in another order, each behind its parent -/
theorem mix_next {st : N} {cs es ls : List (Cue N U)} (hg : Good st cs) (hp : (es ++ ls).Perm cs) : ∀ (i : Nat) (c : Cue N U), cs[i]? = some c → c ∈ ls → ∃ d ∈ ls, d.2.1 ∈ st :: es.map (·.1) := by
  intro i
  induction i using Nat.strongRecOn with
  | ind i ih =>
    intro c hc hl
    rcases List.mem_cons.mp (hg.at hc).2 with h | h
    · exact ⟨c, hl, by rw [h]; exact List.mem_cons_self⟩
    · obtain ⟨d, hd, e⟩ := List.mem_map.mp h
      obtain ⟨j, hj⟩ := List.mem_iff_getElem?.mp hd
      rw [List.getElem?_take] at hj
      split at hj
      · rename_i hji
        rcases List.mem_append.mp (hp.mem_iff.mpr (List.mem_of_getElem? hj)) with h1 | h1
        · exact ⟨c, hl, List.mem_cons_of_mem _ (by rw [← e]; exact List.mem_map_of_mem h1)⟩
        · exact ih j hji d hj h1
      · cases hj
theorem mix_some {st : N} {cs es ls : List (Cue N U)} (hg : Good st cs) (hp : (es ++ ls).Perm cs) (hne : ls ≠ []) : ∃ d ∈ ls, d.2.1 ∈ st :: es.map (·.1) := by
  obtain ⟨c, t, rfl⟩ := List.exists_cons_of_ne_nil hne
  obtain ⟨i, hi⟩ := List.mem_iff_getElem?.mp (hp.mem_iff.mp (List.mem_append_right es (List.mem_cons_self (a := c) (l := t))))
  exact mix_next hg hp i c hi List.mem_cons_self
theorem mix_nodup {st : N} {cs es ls : List (Cue N U)} (hg : Good st cs) (hp : (es ++ ls).Perm cs) : (st :: (es.map (·.1) ++ ls.map (·.1))).Nodup := by
  have h := (hp.map (·.1)).cons st
  rw [List.map_append] at h
  exact h.nodup_iff.mpr hg.nodup
theorem mix_new {st : N} {cs es ls : List (Cue N U)} (hg : Good st cs) (hp : (es ++ ls).Perm cs) {c : Cue N U} (hc : c ∈ ls) : c.1 ∉ st :: es.map (·.1) := by
  have h := mix_nodup hg hp
  rw [← List.cons_append] at h
  exact fun z => (List.nodup_append.mp h).2.2 _ z _ (List.mem_map_of_mem hc) rfl
theorem mix_one {st : N} {cs es ls : List (Cue N U)} (hg : Good st cs) (hp : (es ++ ls).Perm cs) {i j : Nat} {c d : Cue N U} (hc : ls[i]? = some c) (hd : ls[j]? = some d) (e : c.1 = d.1) : i = j := by
  have h := mix_nodup hg hp
  rw [← List.cons_append] at h
  have hn := (List.nodup_append.mp h).2.1
  have hi : i < ls.length := (List.getElem?_eq_some_iff.mp hc).1
  refine (List.getElem?_inj (l := ls.map (·.1)) (by rw [List.length_map]; exact hi) hn).mp ?_
  rw [List.getElem?_map, List.getElem?_map, hc, hd, Option.map_some, Option.map_some, e]
theorem perm_erase {α : Type} : ∀ (l : List α) (j : Nat) (h : j < l.length), (l[j] :: l.eraseIdx j).Perm l
  | a :: l, 0, _ => .refl _
  | a :: l, j + 1, h => by
    show (l[j]'(Nat.lt_of_succ_lt_succ h) :: a :: l.eraseIdx j).Perm (a :: l)
    exact (List.Perm.swap a _ _).trans ((perm_erase l j (Nat.lt_of_succ_lt_succ h)).cons a)
theorem mix_step {cs es ls : List (Cue N U)} (hp : (es ++ ls).Perm cs) {j : Nat} {c : Cue N U} (hc : ls[j]? = some c) : ((es ++ [c]) ++ ls.eraseIdx j).Perm cs := by
  obtain ⟨hj, rfl⟩ := List.getElem?_eq_some_iff.mp hc
  refine List.Perm.trans ?_ hp
  rw [List.append_assoc]
  exact List.Perm.append_left es (perm_erase ls j hj)
end
end PR

set_option maxHeartbeats 4000000
namespace K34
open PySem PySem.Spec PyProof.Rows L2 AT
/-! the text by places -/
def top (i : Nat) : Stmt := PySem.Challenge.pw_anytempo_k34_sheets_turned_and_joined.main.body.getD i (.Pass ⟨0, 0, 0, 0⟩)
abbrev s__wall : Stmt := top 0
abbrev s_InvalidInteger_init_ : Stmt := inClass (top 5) 0
def d_InvalidInteger_init_ : FD := fdOf (fun K => He.ma K (He.ga K "InvalidInteger") "__init__") "__init__" "InvalidInteger.__init__" s_InvalidInteger_init_
abbrev s_InvalidAmount_init_ : Stmt := inClass (top 6) 0
def d_InvalidAmount_init_ : FD := fdOf (fun K => He.ma K (He.ga K "InvalidAmount") "__init__") "__init__" "InvalidAmount.__init__" s_InvalidAmount_init_
abbrev s_InvalidPart_init_ : Stmt := inClass (top 7) 0
def d_InvalidPart_init_ : FD := fdOf (fun K => He.ma K (He.ga K "InvalidPart") "__init__") "__init__" "InvalidPart.__init__" s_InvalidPart_init_
abbrev s_InvalidName_init_ : Stmt := inClass (top 8) 0
def d_InvalidName_init_ : FD := fdOf (fun K => He.ma K (He.ga K "InvalidName") "__init__") "__init__" "InvalidName.__init__" s_InvalidName_init_
abbrev s_InvalidUnit_init_ : Stmt := inClass (top 9) 0
def d_InvalidUnit_init_ : FD := fdOf (fun K => He.ma K (He.ga K "InvalidUnit") "__init__") "__init__" "InvalidUnit.__init__" s_InvalidUnit_init_
abbrev s_InvalidCue_init_ : Stmt := inClass (top 10) 0
def d_InvalidCue_init_ : FD := fdOf (fun K => He.ma K (He.ga K "InvalidCue") "__init__") "__init__" "InvalidCue.__init__" s_InvalidCue_init_
abbrev s_Duplicate_init_ : Stmt := inClass (top 11) 0
def d_Duplicate_init_ : FD := fdOf (fun K => He.ma K (He.ga K "Duplicate") "__init__") "__init__" "Duplicate.__init__" s_Duplicate_init_
abbrev s_InvalidSheet_init_ : Stmt := inClass (top 12) 0
def d_InvalidSheet_init_ : FD := fdOf (fun K => He.ma K (He.ga K "InvalidSheet") "__init__") "__init__" "InvalidSheet.__init__" s_InvalidSheet_init_
abbrev s_UnknownCue_init_ : Stmt := inClass (top 13) 0
def d_UnknownCue_init_ : FD := fdOf (fun K => He.ma K (He.ga K "UnknownCue") "__init__") "__init__" "UnknownCue.__init__" s_UnknownCue_init_
abbrev s_TooMany_init_ : Stmt := inClass (top 14) 0
def d_TooMany_init_ : FD := fdOf (fun K => He.ma K (He.ga K "TooMany") "__init__") "__init__" "TooMany.__init__" s_TooMany_init_
abbrev s_is_whole : Stmt := top 22
def d_is_whole : FD := fdOf (fun K => He.ga K "is_whole") "is_whole" "is_whole" s_is_whole
abbrev s_is_list : Stmt := top 23
def d_is_list : FD := fdOf (fun K => He.ga K "is_list") "is_list" "is_list" s_is_list
abbrev s_is_row : Stmt := top 24
def d_is_row : FD := fdOf (fun K => He.ga K "is_row") "is_row" "is_row" s_is_row
abbrev s_is_name : Stmt := top 25
def d_is_name : FD := fdOf (fun K => He.ga K "is_name") "is_name" "is_name" s_is_name
abbrev s_is_unit : Stmt := top 26
def d_is_unit : FD := fdOf (fun K => He.ga K "is_unit") "is_unit" "is_unit" s_is_unit
abbrev s_need_unit : Stmt := top 27
def d_need_unit : FD := fdOf (fun K => He.ga K "need_unit") "need_unit" "need_unit" s_need_unit
abbrev s_other_unit : Stmt := top 28
def d_other_unit : FD := fdOf (fun K => He.ga K "other_unit") "other_unit" "other_unit" s_other_unit
abbrev s_common_factor : Stmt := top 30
def d_common_factor : FD := fdOf (fun K => He.ga K "common_factor") "common_factor" "common_factor" s_common_factor
abbrev s_Amount_init_ : Stmt := inClass (top 31) 0
def d_Amount_init_ : FD := fdOf (fun K => He.ma K (He.ga K "Amount") "__init__") "__init__" "Amount.__init__" s_Amount_init_ [.int 1]
abbrev s_Amount_top : Stmt := inClass (top 31) 1
def d_Amount_top : FD := fdOf (propAt "Amount" "top") "top" "Amount.top" s_Amount_top
abbrev s_Amount_bottom : Stmt := inClass (top 31) 2
def d_Amount_bottom : FD := fdOf (propAt "Amount" "bottom") "bottom" "Amount.bottom" s_Amount_bottom
abbrev s_Amount_eq_ : Stmt := inClass (top 31) 3
def d_Amount_eq_ : FD := fdOf (fun K => He.ma K (He.ga K "Amount") "__eq__") "__eq__" "Amount.__eq__" s_Amount_eq_
abbrev s_Amount_add_ : Stmt := inClass (top 31) 4
def d_Amount_add_ : FD := fdOf (fun K => He.ma K (He.ga K "Amount") "__add__") "__add__" "Amount.__add__" s_Amount_add_
abbrev s_Amount_sub_ : Stmt := inClass (top 31) 5
def d_Amount_sub_ : FD := fdOf (fun K => He.ma K (He.ga K "Amount") "__sub__") "__sub__" "Amount.__sub__" s_Amount_sub_
abbrev s_Amount_mul_ : Stmt := inClass (top 31) 6
def d_Amount_mul_ : FD := fdOf (fun K => He.ma K (He.ga K "Amount") "__mul__") "__mul__" "Amount.__mul__" s_Amount_mul_
abbrev s_Amount_divided : Stmt := inClass (top 31) 7
def d_Amount_divided : FD := fdOf (fun K => He.ma K (He.ga K "Amount") "divided") "divided" "Amount.divided" s_Amount_divided
abbrev s_Amount_neg_ : Stmt := inClass (top 31) 8
def d_Amount_neg_ : FD := fdOf (fun K => He.ma K (He.ga K "Amount") "__neg__") "__neg__" "Amount.__neg__" s_Amount_neg_
abbrev s_Amount_abs_ : Stmt := inClass (top 31) 9
def d_Amount_abs_ : FD := fdOf (fun K => He.ma K (He.ga K "Amount") "__abs__") "__abs__" "Amount.__abs__" s_Amount_abs_
abbrev s_Amount_compare : Stmt := inClass (top 31) 10
def d_Amount_compare : FD := fdOf (fun K => He.ma K (He.ga K "Amount") "compare") "compare" "Amount.compare" s_Amount_compare
abbrev s_is_amount : Stmt := top 32
def d_is_amount : FD := fdOf (fun K => He.ga K "is_amount") "is_amount" "is_amount" s_is_amount
abbrev s_amount_from : Stmt := top 33
def d_amount_from : FD := fdOf (fun K => He.ga K "amount_from") "amount_from" "amount_from" s_amount_from
abbrev s_extended : Stmt := top 37
def d_extended : FD := fdOf (fun K => He.ga K "extended") "extended" "extended" s_extended
abbrev s_opposite : Stmt := top 38
def d_opposite : FD := fdOf (fun K => He.ga K "opposite") "opposite" "opposite" s_opposite
abbrev s_joined : Stmt := top 39
def d_joined : FD := fdOf (fun K => He.ga K "joined") "joined" "joined" s_joined
abbrev s_told_row : Stmt := top 40
def d_told_row : FD := fdOf (fun K => He.ga K "told_row") "told_row" "told_row" s_told_row
abbrev s_Sheet_init_ : Stmt := inClass (top 41) 0
def d_Sheet_init_ : FD := fdOf (fun K => He.ma K (He.ga K "Sheet") "__init__") "__init__" "Sheet.__init__" s_Sheet_init_
abbrev s_Sheet_take_in : Stmt := inClass (top 41) 1
def d_Sheet_take_in : FD := fdOf (fun K => He.ma K (He.ga K "Sheet") "take_in") "take_in" "Sheet.take_in" s_Sheet_take_in
abbrev s_Sheet_contains_ : Stmt := inClass (top 41) 2
def d_Sheet_contains_ : FD := fdOf (fun K => He.ma K (He.ga K "Sheet") "__contains__") "__contains__" "Sheet.__contains__" s_Sheet_contains_
abbrev s_Sheet_len_ : Stmt := inClass (top 41) 3
def d_Sheet_len_ : FD := fdOf (fun K => He.ma K (He.ga K "Sheet") "__len__") "__len__" "Sheet.__len__" s_Sheet_len_
abbrev s_Sheet_eq_ : Stmt := inClass (top 41) 4
def d_Sheet_eq_ : FD := fdOf (fun K => He.ma K (He.ga K "Sheet") "__eq__") "__eq__" "Sheet.__eq__" s_Sheet_eq_
abbrev s_Sheet_need : Stmt := inClass (top 41) 5
def d_Sheet_need : FD := fdOf (fun K => He.ma K (He.ga K "Sheet") "need") "need" "Sheet.need" s_Sheet_need
abbrev s_Sheet_need_moment : Stmt := inClass (top 41) 6
def d_Sheet_need_moment : FD := fdOf (fun K => He.ma K (He.ga K "Sheet") "need_moment") "need_moment" "Sheet.need_moment" s_Sheet_need_moment
abbrev s_Sheet_names : Stmt := inClass (top 41) 7
def d_Sheet_names : FD := fdOf (fun K => He.ma K (He.ga K "Sheet") "names") "names" "Sheet.names" s_Sheet_names
abbrev s_Sheet_cues : Stmt := inClass (top 41) 8
def d_Sheet_cues : FD := fdOf (fun K => He.ma K (He.ga K "Sheet") "cues") "cues" "Sheet.cues" s_Sheet_cues
abbrev s_Sheet_cue : Stmt := inClass (top 41) 9
def d_Sheet_cue : FD := fdOf (fun K => He.ma K (He.ga K "Sheet") "cue") "cue" "Sheet.cue" s_Sheet_cue
abbrev s_Sheet_children : Stmt := inClass (top 41) 10
def d_Sheet_children : FD := fdOf (fun K => He.ma K (He.ga K "Sheet") "children") "children" "Sheet.children" s_Sheet_children
abbrev s_Sheet_row : Stmt := inClass (top 41) 11
def d_Sheet_row : FD := fdOf (fun K => He.ma K (He.ga K "Sheet") "row") "row" "Sheet.row" s_Sheet_row
abbrev s_Sheet_between : Stmt := inClass (top 41) 12
def d_Sheet_between : FD := fdOf (fun K => He.ma K (He.ga K "Sheet") "between") "between" "Sheet.between" s_Sheet_between
abbrev s_Sheet_same : Stmt := inClass (top 41) 13
def d_Sheet_same : FD := fdOf (fun K => He.ma K (He.ga K "Sheet") "same") "same" "Sheet.same" s_Sheet_same
abbrev s_Sheet_moments : Stmt := inClass (top 41) 14
def d_Sheet_moments : FD := fdOf (fun K => He.ma K (He.ga K "Sheet") "moments") "moments" "Sheet.moments" s_Sheet_moments
abbrev s_Sheet_moment : Stmt := inClass (top 41) 15
def d_Sheet_moment : FD := fdOf (fun K => He.ma K (He.ga K "Sheet") "moment") "moment" "Sheet.moment" s_Sheet_moment
abbrev s_Sheet_names_at : Stmt := inClass (top 41) 16
def d_Sheet_names_at : FD := fdOf (fun K => He.ma K (He.ga K "Sheet") "names_at") "names_at" "Sheet.names_at" s_Sheet_names_at
abbrev s_Sheet_shift_between : Stmt := inClass (top 41) 17
def d_Sheet_shift_between : FD := fdOf (fun K => He.ma K (He.ga K "Sheet") "shift_between") "shift_between" "Sheet.shift_between" s_Sheet_shift_between
abbrev s_Sheet_distance : Stmt := inClass (top 41) 18
def d_Sheet_distance : FD := fdOf (fun K => He.ma K (He.ga K "Sheet") "distance") "distance" "Sheet.distance" s_Sheet_distance
abbrev s_Sheet_line : Stmt := inClass (top 41) 19
def d_Sheet_line : FD := fdOf (fun K => He.ma K (He.ga K "Sheet") "line") "line" "Sheet.line" s_Sheet_line
abbrev s_need_sheet : Stmt := top 42
def d_need_sheet : FD := fdOf (fun K => He.ga K "need_sheet") "need_sheet" "need_sheet" s_need_sheet
abbrev s_unlike : Stmt := top 44
def d_unlike : FD := fdOf (fun K => He.ga K "unlike") "unlike" "unlike" s_unlike
abbrev s_is_alike : Stmt := top 45
def d_is_alike : FD := fdOf (fun K => He.ga K "is_alike") "is_alike" "is_alike" s_is_alike
abbrev s_exchanged : Stmt := top 46
def d_exchanged : FD := fdOf (fun K => He.ga K "exchanged") "exchanged" "exchanged" s_exchanged
abbrev s_reversed_sheet : Stmt := top 47
def d_reversed_sheet : FD := fdOf (fun K => He.ga K "reversed_sheet") "reversed_sheet" "reversed_sheet" s_reversed_sheet
abbrev s_need_factor : Stmt := top 48
def d_need_factor : FD := fdOf (fun K => He.ga K "need_factor") "need_factor" "need_factor" s_need_factor
abbrev s_stretched : Stmt := top 49
def d_stretched : FD := fdOf (fun K => He.ga K "stretched") "stretched" "stretched" s_stretched
abbrev s_attached : Stmt := top 50
def d_attached : FD := fdOf (fun K => He.ga K "attached") "attached" "attached" s_attached
abbrev s_w_cell : Stmt := top 52
def d_w_cell : FD := fdOf (fun K => He.ga K "_law_cell") "_law_cell" "_law_cell" s_w_cell
abbrev s_w_box : Stmt := top 53
def d_w_box : FD := fdOf (fun K => He.ga K "_law_box") "_law_box" "_law_box" s_w_box
abbrev s_w_take : Stmt := top 54
def d_w_take : FD := fdOf (fun K => He.ga K "_law_take") "_law_take" "_law_take" s_w_take
abbrev s_w_lowest : Stmt := top 55
def d_w_lowest : FD := fdOf (fun K => He.ga K "_law_lowest") "_law_lowest" "_law_lowest" s_w_lowest
abbrev s_w_added : Stmt := top 56
def d_w_added : FD := fdOf (fun K => He.ga K "_law_added") "_law_added" "_law_added" s_w_added
abbrev s_w_amount : Stmt := top 57
def d_w_amount : FD := fdOf (fun K => He.ga K "_law_amount") "_law_amount" "_law_amount" s_w_amount
abbrev s_w_led : Stmt := top 58
def d_w_led : FD := fdOf (fun K => He.ga K "_law_led") "_law_led" "_law_led" s_w_led
abbrev s_w_rows : Stmt := top 59
def d_w_rows : FD := fdOf (fun K => He.ga K "_law_rows") "_law_rows" "_law_rows" s_w_rows
abbrev s_w_moments : Stmt := top 60
def d_w_moments : FD := fdOf (fun K => He.ga K "_law_moments") "_law_moments" "_law_moments" s_w_moments
abbrev s_w_cues : Stmt := top 61
def d_w_cues : FD := fdOf (fun K => He.ga K "_law_cues") "_law_cues" "_law_cues" s_w_cues
abbrev s_w_passed : Stmt := top 62
def d_w_passed : FD := fdOf (fun K => He.ga K "_law_passed") "_law_passed" "_law_passed" s_w_passed
abbrev s_w_plain : Stmt := top 63
def d_w_plain : FD := fdOf (fun K => He.ga K "_law_plain") "_law_plain" "_law_plain" s_w_plain
abbrev s_w_times : Stmt := top 64
def d_w_times : FD := fdOf (fun K => He.ga K "_law_times") "_law_times" "_law_times" s_w_times
abbrev s_w_turned_right : Stmt := top 65
def d_w_turned_right : FD := fdOf (fun K => He.ga K "_law_turned_right") "_law_turned_right" "_law_turned_right" s_w_turned_right
abbrev s_w_mixed : Stmt := top 66
def d_w_mixed : FD := fdOf (fun K => He.ga K "_law_mixed") "_law_mixed" "_law_mixed" s_w_mixed
abbrev s_w_unlike : Stmt := top 67
def d_w_unlike : FD := fdOf (fun K => He.ga K "_law_unlike") "_law_unlike" "_law_unlike" s_w_unlike
abbrev s_w_alike_right : Stmt := top 68
def d_w_alike_right : FD := fdOf (fun K => He.ga K "_law_alike_right") "_law_alike_right" "_law_alike_right" s_w_alike_right
abbrev s_w_due : Stmt := top 69
def d_w_due : FD := fdOf (fun K => He.ga K "_law_due") "_law_due" "_law_due" s_w_due
abbrev s_w_is_named : Stmt := top 70
def d_w_is_named : FD := fdOf (fun K => He.ga K "_law_is_named") "_law_is_named" "_law_is_named" s_w_is_named
abbrev s_w_told : Stmt := top 71
def d_w_told : FD := fdOf (fun K => He.ga K "_law_told") "_law_told" "_law_told" s_w_told
abbrev s_w_odd_right : Stmt := top 72
def d_w_odd_right : FD := fdOf (fun K => He.ga K "_law_odd_right") "_law_odd_right" "_law_odd_right" s_w_odd_right
abbrev s_w_start_right : Stmt := top 73
def d_w_start_right : FD := fdOf (fun K => He.ga K "_law_start_right") "_law_start_right" "_law_start_right" s_w_start_right
abbrev s_law : Stmt := top 74
def d_law : FD := fdOf (fun K => He.ga K "law") "law" "law" s_law
def fn : List FD := [d_InvalidInteger_init_, d_InvalidAmount_init_, d_InvalidPart_init_, d_InvalidName_init_, d_InvalidUnit_init_, d_InvalidCue_init_, d_Duplicate_init_, d_InvalidSheet_init_, d_UnknownCue_init_, d_TooMany_init_, d_is_whole, d_is_list, d_is_row, d_is_name, d_is_unit, d_need_unit, d_other_unit, d_common_factor, d_Amount_init_, d_Amount_top, d_Amount_bottom, d_Amount_eq_, d_Amount_add_, d_Amount_sub_, d_Amount_mul_, d_Amount_divided, d_Amount_neg_, d_Amount_abs_, d_Amount_compare, d_is_amount, d_amount_from, d_extended, d_opposite, d_joined, d_told_row, d_Sheet_init_, d_Sheet_take_in, d_Sheet_contains_, d_Sheet_len_, d_Sheet_eq_, d_Sheet_need, d_Sheet_need_moment, d_Sheet_names, d_Sheet_cues, d_Sheet_cue, d_Sheet_children, d_Sheet_row, d_Sheet_between, d_Sheet_same, d_Sheet_moments, d_Sheet_moment, d_Sheet_names_at, d_Sheet_shift_between, d_Sheet_distance, d_Sheet_line, d_need_sheet, d_unlike, d_is_alike, d_exchanged, d_reversed_sheet, d_need_factor, d_stretched, d_attached, d_w_cell, d_w_box, d_w_take, d_w_lowest, d_w_added, d_w_amount, d_w_led, d_w_rows, d_w_moments, d_w_cues, d_w_passed, d_w_plain, d_w_times, d_w_turned_right, d_w_mixed, d_w_unlike, d_w_alike_right, d_w_due, d_w_is_named, d_w_told, d_w_odd_right, d_w_start_right, d_law]
def ex : Ex := [
  gloB "is_whole",
  gloB "is_list",
  gloB "is_row",
  gloB "is_name",
  gloB "is_unit",
  gloB "need_unit",
  gloB "other_unit",
  gloB "common_factor",
  gloB "is_amount",
  gloB "amount_from",
  gloB "extended",
  gloB "opposite",
  gloB "joined",
  gloB "told_row",
  gloB "need_sheet",
  gloB "unlike",
  gloB "is_alike",
  gloB "exchanged",
  gloB "reversed_sheet",
  gloB "need_factor",
  gloB "stretched",
  gloB "attached",
  gloB "_law_cell",
  gloB "_law_box",
  gloB "_law_take",
  gloB "_law_lowest",
  gloB "_law_added",
  gloB "_law_amount",
  gloB "_law_led",
  gloB "_law_rows",
  gloB "_law_moments",
  gloB "_law_cues",
  gloB "_law_passed",
  gloB "_law_plain",
  gloB "_law_times",
  gloB "_law_turned_right",
  gloB "_law_mixed",
  gloB "_law_unlike",
  gloB "_law_alike_right",
  gloB "_law_due",
  gloB "_law_is_named",
  gloB "_law_told",
  gloB "_law_odd_right",
  gloB "_law_start_right",
  gloB "law",
  gloB "CueError",
  gloB "MissingError",
  gloB "StateError",
  gloB "InvalidInteger",
  gloB "InvalidAmount",
  gloB "InvalidPart",
  gloB "InvalidName",
  gloB "InvalidUnit",
  gloB "InvalidCue",
  gloB "Duplicate",
  gloB "InvalidSheet",
  gloB "UnknownCue",
  gloB "TooMany",
  gloB "Amount",
  gloB "Sheet",
  freeB "KeyError",
  freeB "LookupError",
  freeB "NotImplemented",
  freeB "ValueError",
  freeB "abs",
  freeB "all",
  freeB "bool",
  freeB "enumerate",
  freeB "int",
  freeB "isinstance",
  freeB "len",
  freeB "list",
  freeB "max",
  freeB "min",
  freeB "property",
  freeB "range",
  freeB "repr",
  freeB "reversed",
  freeB "str",
  freeB "tuple",
  conB "BEATS" (.str "beats"),
  conB "SECONDS" (.str "seconds"),
  lstB "UNITS" [.str "beats", .str "seconds"],
  gloB "UNITS",
  conB "LETTERS" (.str "abcdefghijklmnopqrstuvwxyz"),
  conB "DIGITS" (.str "0123456789"),
  conB "LONGEST_NAME" (.int 8),
  conB "START" (.str "start"),
  conB "MOST_MOMENTS" (.int 8),
  clsB "Amount",
  mkrB "Amount",
  insB "Amount",
  methB "Amount" "__init__",
  methB "Amount" "__eq__",
  methB "Amount" "__add__",
  methB "Amount" "__sub__",
  methB "Amount" "__mul__",
  methB "Amount" "divided",
  methB "Amount" "__neg__",
  methB "Amount" "__abs__",
  methB "Amount" "compare",
  noatB "Amount" "own_top",
  noatB "Amount" "own_bottom",
  propB "Amount" "top",
  propB "Amount" "bottom",
  kitB (fun _ => .type "NoneType") (fun K => .ref (He.ga K "Amount")) false,
  kitB (fun _ => .type "bool") (fun K => .ref (He.ga K "Amount")) false,
  kitB (fun _ => .type "int") (fun K => .ref (He.ga K "Amount")) false,
  kitB (fun _ => .type "str") (fun K => .ref (He.ga K "Amount")) false,
  kitB (fun _ => .type "list") (fun K => .ref (He.ga K "Amount")) false,
  kitB (fun _ => .type "tuple") (fun K => .ref (He.ga K "Amount")) false,
  kitB (fun _ => .type "dict") (fun K => .ref (He.ga K "Amount")) false,
  kitB (fun K => .ref (He.ga K "Amount")) (fun K => .ref (He.ga K "Amount")) true,
  kitB (fun K => .ref (He.ga K "Amount")) (fun K => .ref (He.ga K "Sheet")) false,
  kitB (fun K => .ref (He.ga K "Amount")) (fun _ => .type "bool") false,
  kitB (fun K => .ref (He.ga K "Amount")) (fun _ => .type "int") false,
  kitB (fun K => .ref (He.ga K "Amount")) (fun _ => .type "str") false,
  kitB (fun K => .ref (He.ga K "Amount")) (fun _ => .type "list") false,
  kitB (fun K => .ref (He.ga K "Amount")) (fun _ => .type "tuple") false,
  kitB (fun K => .ref (He.ga K "Amount")) (fun _ => .type "dict") false,
  clsB "Sheet",
  mkrB "Sheet",
  insB "Sheet",
  methB "Sheet" "__init__",
  methB "Sheet" "take_in",
  methB "Sheet" "__contains__",
  methB "Sheet" "__len__",
  methB "Sheet" "__eq__",
  methB "Sheet" "need",
  methB "Sheet" "need_moment",
  methB "Sheet" "names",
  methB "Sheet" "cues",
  methB "Sheet" "cue",
  methB "Sheet" "children",
  methB "Sheet" "row",
  methB "Sheet" "between",
  methB "Sheet" "same",
  methB "Sheet" "moments",
  methB "Sheet" "moment",
  methB "Sheet" "names_at",
  methB "Sheet" "shift_between",
  methB "Sheet" "distance",
  methB "Sheet" "line",
  noatB "Sheet" "own_cues",
  noatB "Sheet" "own_rows",
  noatB "Sheet" "own_moments",
  noatB "Sheet" "own_ways",
  kitB (fun _ => .type "NoneType") (fun K => .ref (He.ga K "Sheet")) false,
  kitB (fun _ => .type "bool") (fun K => .ref (He.ga K "Sheet")) false,
  kitB (fun _ => .type "int") (fun K => .ref (He.ga K "Sheet")) false,
  kitB (fun _ => .type "str") (fun K => .ref (He.ga K "Sheet")) false,
  kitB (fun _ => .type "list") (fun K => .ref (He.ga K "Sheet")) false,
  kitB (fun _ => .type "tuple") (fun K => .ref (He.ga K "Sheet")) false,
  kitB (fun _ => .type "dict") (fun K => .ref (He.ga K "Sheet")) false,
  kitB (fun K => .ref (He.ga K "Sheet")) (fun K => .ref (He.ga K "Sheet")) true,
  kitB (fun K => .ref (He.ga K "Sheet")) (fun K => .ref (He.ga K "Amount")) false,
  kitB (fun K => .ref (He.ga K "Sheet")) (fun _ => .type "bool") false,
  kitB (fun K => .ref (He.ga K "Sheet")) (fun _ => .type "int") false,
  kitB (fun K => .ref (He.ga K "Sheet")) (fun _ => .type "str") false,
  kitB (fun K => .ref (He.ga K "Sheet")) (fun _ => .type "list") false,
  kitB (fun K => .ref (He.ga K "Sheet")) (fun _ => .type "tuple") false,
  kitB (fun K => .ref (He.ga K "Sheet")) (fun _ => .type "dict") false,
  fun K => baB K "CueError",
  fun K => xcB K "InvalidInteger" "value",
  fun K => xcB K "InvalidAmount" "value",
  fun K => xcB K "InvalidPart" "value",
  fun K => xcB K "InvalidName" "value",
  fun K => xcB K "InvalidUnit" "value",
  fun K => xcB K "InvalidCue" "value",
  fun K => xcB K "Duplicate" "label",
  fun K => xcB K "InvalidSheet" "value",
  baGB "KeyError.__init__" "MissingError",
  baGB "LookupError.__init__" "StateError",
  xcGB keTail "UnknownCue" "label",
  xcGB leTail "TooMany" "most",
  exmB "InvalidAmount" "InvalidAmount" true,
  exmB "InvalidAmount" "InvalidName" false,
  exmB "InvalidAmount" "InvalidUnit" false,
  exmB "InvalidAmount" "Duplicate" false,
  exmB "InvalidAmount" "InvalidSheet" false,
  exmB "InvalidAmount" "UnknownCue" false,
  exmB "InvalidAmount" "TooMany" false,
  exmB "InvalidName" "InvalidAmount" false,
  exmB "InvalidName" "InvalidName" true,
  exmB "InvalidName" "InvalidUnit" false,
  exmB "InvalidName" "Duplicate" false,
  exmB "InvalidName" "InvalidSheet" false,
  exmB "InvalidName" "UnknownCue" false,
  exmB "InvalidName" "TooMany" false,
  exmB "InvalidUnit" "InvalidAmount" false,
  exmB "InvalidUnit" "InvalidName" false,
  exmB "InvalidUnit" "InvalidUnit" true,
  exmB "InvalidUnit" "Duplicate" false,
  exmB "InvalidUnit" "InvalidSheet" false,
  exmB "InvalidUnit" "UnknownCue" false,
  exmB "InvalidUnit" "TooMany" false,
  exmB "Duplicate" "InvalidAmount" false,
  exmB "Duplicate" "InvalidName" false,
  exmB "Duplicate" "InvalidUnit" false,
  exmB "Duplicate" "Duplicate" true,
  exmB "Duplicate" "InvalidSheet" false,
  exmB "Duplicate" "UnknownCue" false,
  exmB "Duplicate" "TooMany" false,
  exmB "InvalidSheet" "InvalidAmount" false,
  exmB "InvalidSheet" "InvalidName" false,
  exmB "InvalidSheet" "InvalidUnit" false,
  exmB "InvalidSheet" "Duplicate" false,
  exmB "InvalidSheet" "InvalidSheet" true,
  exmB "InvalidSheet" "UnknownCue" false,
  exmB "InvalidSheet" "TooMany" false,
  exmB "UnknownCue" "InvalidAmount" false,
  exmB "UnknownCue" "InvalidName" false,
  exmB "UnknownCue" "InvalidUnit" false,
  exmB "UnknownCue" "Duplicate" false,
  exmB "UnknownCue" "InvalidSheet" false,
  exmB "UnknownCue" "UnknownCue" true,
  exmB "UnknownCue" "TooMany" false,
  exmB "TooMany" "InvalidAmount" false,
  exmB "TooMany" "InvalidName" false,
  exmB "TooMany" "InvalidUnit" false,
  exmB "TooMany" "Duplicate" false,
  exmB "TooMany" "InvalidSheet" false,
  exmB "TooMany" "UnknownCue" false,
  exmB "TooMany" "TooMany" true,
  eqcB "Amount",
  opcB "Amount" "__add__" "add",
  opcB "Amount" "__sub__" "sub",
  opcB "Amount" "__mul__" "mul",
  eqcB "Sheet",
  sysB]
structure Tx (K : PySem.W.Frag) (mg : Str → Option Value) (base : Heap) : Prop where
  says : SaysA fn ex K
  kin : K.In base
  ns : base.Ns mainGlobals mg
section
variable {K : PySem.W.Frag} {mg : Str → Option Value} {base : Heap}
theorem Tx.g_is_whole (T : Tx K mg base) : mg "is_whole" = some (.ref (He.ga K "is_whole")) := PySem.W.mg_of T.kin T.ns (He.eqO_ok (T.says.more 0 (e := gloB "is_whole") rfl))
theorem Tx.g_is_list (T : Tx K mg base) : mg "is_list" = some (.ref (He.ga K "is_list")) := PySem.W.mg_of T.kin T.ns (He.eqO_ok (T.says.more 1 (e := gloB "is_list") rfl))
theorem Tx.g_is_row (T : Tx K mg base) : mg "is_row" = some (.ref (He.ga K "is_row")) := PySem.W.mg_of T.kin T.ns (He.eqO_ok (T.says.more 2 (e := gloB "is_row") rfl))
theorem Tx.g_is_name (T : Tx K mg base) : mg "is_name" = some (.ref (He.ga K "is_name")) := PySem.W.mg_of T.kin T.ns (He.eqO_ok (T.says.more 3 (e := gloB "is_name") rfl))
theorem Tx.g_is_unit (T : Tx K mg base) : mg "is_unit" = some (.ref (He.ga K "is_unit")) := PySem.W.mg_of T.kin T.ns (He.eqO_ok (T.says.more 4 (e := gloB "is_unit") rfl))
theorem Tx.g_need_unit (T : Tx K mg base) : mg "need_unit" = some (.ref (He.ga K "need_unit")) := PySem.W.mg_of T.kin T.ns (He.eqO_ok (T.says.more 5 (e := gloB "need_unit") rfl))
theorem Tx.g_other_unit (T : Tx K mg base) : mg "other_unit" = some (.ref (He.ga K "other_unit")) := PySem.W.mg_of T.kin T.ns (He.eqO_ok (T.says.more 6 (e := gloB "other_unit") rfl))
theorem Tx.g_common_factor (T : Tx K mg base) : mg "common_factor" = some (.ref (He.ga K "common_factor")) := PySem.W.mg_of T.kin T.ns (He.eqO_ok (T.says.more 7 (e := gloB "common_factor") rfl))
theorem Tx.g_is_amount (T : Tx K mg base) : mg "is_amount" = some (.ref (He.ga K "is_amount")) := PySem.W.mg_of T.kin T.ns (He.eqO_ok (T.says.more 8 (e := gloB "is_amount") rfl))
theorem Tx.g_amount_from (T : Tx K mg base) : mg "amount_from" = some (.ref (He.ga K "amount_from")) := PySem.W.mg_of T.kin T.ns (He.eqO_ok (T.says.more 9 (e := gloB "amount_from") rfl))
theorem Tx.g_extended (T : Tx K mg base) : mg "extended" = some (.ref (He.ga K "extended")) := PySem.W.mg_of T.kin T.ns (He.eqO_ok (T.says.more 10 (e := gloB "extended") rfl))
theorem Tx.g_opposite (T : Tx K mg base) : mg "opposite" = some (.ref (He.ga K "opposite")) := PySem.W.mg_of T.kin T.ns (He.eqO_ok (T.says.more 11 (e := gloB "opposite") rfl))
theorem Tx.g_joined (T : Tx K mg base) : mg "joined" = some (.ref (He.ga K "joined")) := PySem.W.mg_of T.kin T.ns (He.eqO_ok (T.says.more 12 (e := gloB "joined") rfl))
theorem Tx.g_told_row (T : Tx K mg base) : mg "told_row" = some (.ref (He.ga K "told_row")) := PySem.W.mg_of T.kin T.ns (He.eqO_ok (T.says.more 13 (e := gloB "told_row") rfl))
theorem Tx.g_need_sheet (T : Tx K mg base) : mg "need_sheet" = some (.ref (He.ga K "need_sheet")) := PySem.W.mg_of T.kin T.ns (He.eqO_ok (T.says.more 14 (e := gloB "need_sheet") rfl))
theorem Tx.g_unlike (T : Tx K mg base) : mg "unlike" = some (.ref (He.ga K "unlike")) := PySem.W.mg_of T.kin T.ns (He.eqO_ok (T.says.more 15 (e := gloB "unlike") rfl))
theorem Tx.g_is_alike (T : Tx K mg base) : mg "is_alike" = some (.ref (He.ga K "is_alike")) := PySem.W.mg_of T.kin T.ns (He.eqO_ok (T.says.more 16 (e := gloB "is_alike") rfl))
theorem Tx.g_exchanged (T : Tx K mg base) : mg "exchanged" = some (.ref (He.ga K "exchanged")) := PySem.W.mg_of T.kin T.ns (He.eqO_ok (T.says.more 17 (e := gloB "exchanged") rfl))
theorem Tx.g_reversed_sheet (T : Tx K mg base) : mg "reversed_sheet" = some (.ref (He.ga K "reversed_sheet")) := PySem.W.mg_of T.kin T.ns (He.eqO_ok (T.says.more 18 (e := gloB "reversed_sheet") rfl))
theorem Tx.g_need_factor (T : Tx K mg base) : mg "need_factor" = some (.ref (He.ga K "need_factor")) := PySem.W.mg_of T.kin T.ns (He.eqO_ok (T.says.more 19 (e := gloB "need_factor") rfl))
theorem Tx.g_stretched (T : Tx K mg base) : mg "stretched" = some (.ref (He.ga K "stretched")) := PySem.W.mg_of T.kin T.ns (He.eqO_ok (T.says.more 20 (e := gloB "stretched") rfl))
theorem Tx.g_attached (T : Tx K mg base) : mg "attached" = some (.ref (He.ga K "attached")) := PySem.W.mg_of T.kin T.ns (He.eqO_ok (T.says.more 21 (e := gloB "attached") rfl))
theorem Tx.g_w_cell (T : Tx K mg base) : mg "_law_cell" = some (.ref (He.ga K "_law_cell")) := PySem.W.mg_of T.kin T.ns (He.eqO_ok (T.says.more 22 (e := gloB "_law_cell") rfl))
theorem Tx.g_w_box (T : Tx K mg base) : mg "_law_box" = some (.ref (He.ga K "_law_box")) := PySem.W.mg_of T.kin T.ns (He.eqO_ok (T.says.more 23 (e := gloB "_law_box") rfl))
theorem Tx.g_w_take (T : Tx K mg base) : mg "_law_take" = some (.ref (He.ga K "_law_take")) := PySem.W.mg_of T.kin T.ns (He.eqO_ok (T.says.more 24 (e := gloB "_law_take") rfl))
theorem Tx.g_w_lowest (T : Tx K mg base) : mg "_law_lowest" = some (.ref (He.ga K "_law_lowest")) := PySem.W.mg_of T.kin T.ns (He.eqO_ok (T.says.more 25 (e := gloB "_law_lowest") rfl))
theorem Tx.g_w_added (T : Tx K mg base) : mg "_law_added" = some (.ref (He.ga K "_law_added")) := PySem.W.mg_of T.kin T.ns (He.eqO_ok (T.says.more 26 (e := gloB "_law_added") rfl))
theorem Tx.g_w_amount (T : Tx K mg base) : mg "_law_amount" = some (.ref (He.ga K "_law_amount")) := PySem.W.mg_of T.kin T.ns (He.eqO_ok (T.says.more 27 (e := gloB "_law_amount") rfl))
theorem Tx.g_w_led (T : Tx K mg base) : mg "_law_led" = some (.ref (He.ga K "_law_led")) := PySem.W.mg_of T.kin T.ns (He.eqO_ok (T.says.more 28 (e := gloB "_law_led") rfl))
theorem Tx.g_w_rows (T : Tx K mg base) : mg "_law_rows" = some (.ref (He.ga K "_law_rows")) := PySem.W.mg_of T.kin T.ns (He.eqO_ok (T.says.more 29 (e := gloB "_law_rows") rfl))
theorem Tx.g_w_moments (T : Tx K mg base) : mg "_law_moments" = some (.ref (He.ga K "_law_moments")) := PySem.W.mg_of T.kin T.ns (He.eqO_ok (T.says.more 30 (e := gloB "_law_moments") rfl))
theorem Tx.g_w_cues (T : Tx K mg base) : mg "_law_cues" = some (.ref (He.ga K "_law_cues")) := PySem.W.mg_of T.kin T.ns (He.eqO_ok (T.says.more 31 (e := gloB "_law_cues") rfl))
theorem Tx.g_w_passed (T : Tx K mg base) : mg "_law_passed" = some (.ref (He.ga K "_law_passed")) := PySem.W.mg_of T.kin T.ns (He.eqO_ok (T.says.more 32 (e := gloB "_law_passed") rfl))
theorem Tx.g_w_plain (T : Tx K mg base) : mg "_law_plain" = some (.ref (He.ga K "_law_plain")) := PySem.W.mg_of T.kin T.ns (He.eqO_ok (T.says.more 33 (e := gloB "_law_plain") rfl))
theorem Tx.g_w_times (T : Tx K mg base) : mg "_law_times" = some (.ref (He.ga K "_law_times")) := PySem.W.mg_of T.kin T.ns (He.eqO_ok (T.says.more 34 (e := gloB "_law_times") rfl))
theorem Tx.g_w_turned_right (T : Tx K mg base) : mg "_law_turned_right" = some (.ref (He.ga K "_law_turned_right")) := PySem.W.mg_of T.kin T.ns (He.eqO_ok (T.says.more 35 (e := gloB "_law_turned_right") rfl))
theorem Tx.g_w_mixed (T : Tx K mg base) : mg "_law_mixed" = some (.ref (He.ga K "_law_mixed")) := PySem.W.mg_of T.kin T.ns (He.eqO_ok (T.says.more 36 (e := gloB "_law_mixed") rfl))
theorem Tx.g_w_unlike (T : Tx K mg base) : mg "_law_unlike" = some (.ref (He.ga K "_law_unlike")) := PySem.W.mg_of T.kin T.ns (He.eqO_ok (T.says.more 37 (e := gloB "_law_unlike") rfl))
theorem Tx.g_w_alike_right (T : Tx K mg base) : mg "_law_alike_right" = some (.ref (He.ga K "_law_alike_right")) := PySem.W.mg_of T.kin T.ns (He.eqO_ok (T.says.more 38 (e := gloB "_law_alike_right") rfl))
theorem Tx.g_w_due (T : Tx K mg base) : mg "_law_due" = some (.ref (He.ga K "_law_due")) := PySem.W.mg_of T.kin T.ns (He.eqO_ok (T.says.more 39 (e := gloB "_law_due") rfl))
theorem Tx.g_w_is_named (T : Tx K mg base) : mg "_law_is_named" = some (.ref (He.ga K "_law_is_named")) := PySem.W.mg_of T.kin T.ns (He.eqO_ok (T.says.more 40 (e := gloB "_law_is_named") rfl))
theorem Tx.g_w_told (T : Tx K mg base) : mg "_law_told" = some (.ref (He.ga K "_law_told")) := PySem.W.mg_of T.kin T.ns (He.eqO_ok (T.says.more 41 (e := gloB "_law_told") rfl))
theorem Tx.g_w_odd_right (T : Tx K mg base) : mg "_law_odd_right" = some (.ref (He.ga K "_law_odd_right")) := PySem.W.mg_of T.kin T.ns (He.eqO_ok (T.says.more 42 (e := gloB "_law_odd_right") rfl))
theorem Tx.g_w_start_right (T : Tx K mg base) : mg "_law_start_right" = some (.ref (He.ga K "_law_start_right")) := PySem.W.mg_of T.kin T.ns (He.eqO_ok (T.says.more 43 (e := gloB "_law_start_right") rfl))
theorem Tx.g_law (T : Tx K mg base) : mg "law" = some (.ref (He.ga K "law")) := PySem.W.mg_of T.kin T.ns (He.eqO_ok (T.says.more 44 (e := gloB "law") rfl))
theorem Tx.g_CueError (T : Tx K mg base) : mg "CueError" = some (.ref (He.ga K "CueError")) := PySem.W.mg_of T.kin T.ns (He.eqO_ok (T.says.more 45 (e := gloB "CueError") rfl))
theorem Tx.g_MissingError (T : Tx K mg base) : mg "MissingError" = some (.ref (He.ga K "MissingError")) := PySem.W.mg_of T.kin T.ns (He.eqO_ok (T.says.more 46 (e := gloB "MissingError") rfl))
theorem Tx.g_StateError (T : Tx K mg base) : mg "StateError" = some (.ref (He.ga K "StateError")) := PySem.W.mg_of T.kin T.ns (He.eqO_ok (T.says.more 47 (e := gloB "StateError") rfl))
theorem Tx.g_InvalidInteger (T : Tx K mg base) : mg "InvalidInteger" = some (.ref (He.ga K "InvalidInteger")) := PySem.W.mg_of T.kin T.ns (He.eqO_ok (T.says.more 48 (e := gloB "InvalidInteger") rfl))
theorem Tx.g_InvalidAmount (T : Tx K mg base) : mg "InvalidAmount" = some (.ref (He.ga K "InvalidAmount")) := PySem.W.mg_of T.kin T.ns (He.eqO_ok (T.says.more 49 (e := gloB "InvalidAmount") rfl))
theorem Tx.g_InvalidPart (T : Tx K mg base) : mg "InvalidPart" = some (.ref (He.ga K "InvalidPart")) := PySem.W.mg_of T.kin T.ns (He.eqO_ok (T.says.more 50 (e := gloB "InvalidPart") rfl))
theorem Tx.g_InvalidName (T : Tx K mg base) : mg "InvalidName" = some (.ref (He.ga K "InvalidName")) := PySem.W.mg_of T.kin T.ns (He.eqO_ok (T.says.more 51 (e := gloB "InvalidName") rfl))
theorem Tx.g_InvalidUnit (T : Tx K mg base) : mg "InvalidUnit" = some (.ref (He.ga K "InvalidUnit")) := PySem.W.mg_of T.kin T.ns (He.eqO_ok (T.says.more 52 (e := gloB "InvalidUnit") rfl))
theorem Tx.g_InvalidCue (T : Tx K mg base) : mg "InvalidCue" = some (.ref (He.ga K "InvalidCue")) := PySem.W.mg_of T.kin T.ns (He.eqO_ok (T.says.more 53 (e := gloB "InvalidCue") rfl))
theorem Tx.g_Duplicate (T : Tx K mg base) : mg "Duplicate" = some (.ref (He.ga K "Duplicate")) := PySem.W.mg_of T.kin T.ns (He.eqO_ok (T.says.more 54 (e := gloB "Duplicate") rfl))
theorem Tx.g_InvalidSheet (T : Tx K mg base) : mg "InvalidSheet" = some (.ref (He.ga K "InvalidSheet")) := PySem.W.mg_of T.kin T.ns (He.eqO_ok (T.says.more 55 (e := gloB "InvalidSheet") rfl))
theorem Tx.g_UnknownCue (T : Tx K mg base) : mg "UnknownCue" = some (.ref (He.ga K "UnknownCue")) := PySem.W.mg_of T.kin T.ns (He.eqO_ok (T.says.more 56 (e := gloB "UnknownCue") rfl))
theorem Tx.g_TooMany (T : Tx K mg base) : mg "TooMany" = some (.ref (He.ga K "TooMany")) := PySem.W.mg_of T.kin T.ns (He.eqO_ok (T.says.more 57 (e := gloB "TooMany") rfl))
theorem Tx.g_Amount (T : Tx K mg base) : mg "Amount" = some (.ref (He.ga K "Amount")) := PySem.W.mg_of T.kin T.ns (He.eqO_ok (T.says.more 58 (e := gloB "Amount") rfl))
theorem Tx.g_Sheet (T : Tx K mg base) : mg "Sheet" = some (.ref (He.ga K "Sheet")) := PySem.W.mg_of T.kin T.ns (He.eqO_ok (T.says.more 59 (e := gloB "Sheet") rfl))
theorem Tx.b_KeyError (T : Tx K mg base) : mg "KeyError" = none := PySem.W.mg_none_of T.kin T.ns (He.eqO_ok (T.says.more 60 (e := freeB "KeyError") rfl))
theorem Tx.b_LookupError (T : Tx K mg base) : mg "LookupError" = none := PySem.W.mg_none_of T.kin T.ns (He.eqO_ok (T.says.more 61 (e := freeB "LookupError") rfl))
theorem Tx.b_NotImplemented (T : Tx K mg base) : mg "NotImplemented" = none := PySem.W.mg_none_of T.kin T.ns (He.eqO_ok (T.says.more 62 (e := freeB "NotImplemented") rfl))
theorem Tx.b_ValueError (T : Tx K mg base) : mg "ValueError" = none := PySem.W.mg_none_of T.kin T.ns (He.eqO_ok (T.says.more 63 (e := freeB "ValueError") rfl))
theorem Tx.b_abs (T : Tx K mg base) : mg "abs" = none := PySem.W.mg_none_of T.kin T.ns (He.eqO_ok (T.says.more 64 (e := freeB "abs") rfl))
theorem Tx.b_all (T : Tx K mg base) : mg "all" = none := PySem.W.mg_none_of T.kin T.ns (He.eqO_ok (T.says.more 65 (e := freeB "all") rfl))
theorem Tx.b_bool (T : Tx K mg base) : mg "bool" = none := PySem.W.mg_none_of T.kin T.ns (He.eqO_ok (T.says.more 66 (e := freeB "bool") rfl))
theorem Tx.b_enumerate (T : Tx K mg base) : mg "enumerate" = none := PySem.W.mg_none_of T.kin T.ns (He.eqO_ok (T.says.more 67 (e := freeB "enumerate") rfl))
theorem Tx.b_int (T : Tx K mg base) : mg "int" = none := PySem.W.mg_none_of T.kin T.ns (He.eqO_ok (T.says.more 68 (e := freeB "int") rfl))
theorem Tx.b_isinstance (T : Tx K mg base) : mg "isinstance" = none := PySem.W.mg_none_of T.kin T.ns (He.eqO_ok (T.says.more 69 (e := freeB "isinstance") rfl))
theorem Tx.b_len (T : Tx K mg base) : mg "len" = none := PySem.W.mg_none_of T.kin T.ns (He.eqO_ok (T.says.more 70 (e := freeB "len") rfl))
theorem Tx.b_list (T : Tx K mg base) : mg "list" = none := PySem.W.mg_none_of T.kin T.ns (He.eqO_ok (T.says.more 71 (e := freeB "list") rfl))
theorem Tx.b_max (T : Tx K mg base) : mg "max" = none := PySem.W.mg_none_of T.kin T.ns (He.eqO_ok (T.says.more 72 (e := freeB "max") rfl))
theorem Tx.b_min (T : Tx K mg base) : mg "min" = none := PySem.W.mg_none_of T.kin T.ns (He.eqO_ok (T.says.more 73 (e := freeB "min") rfl))
theorem Tx.b_property (T : Tx K mg base) : mg "property" = none := PySem.W.mg_none_of T.kin T.ns (He.eqO_ok (T.says.more 74 (e := freeB "property") rfl))
theorem Tx.b_range (T : Tx K mg base) : mg "range" = none := PySem.W.mg_none_of T.kin T.ns (He.eqO_ok (T.says.more 75 (e := freeB "range") rfl))
theorem Tx.b_repr (T : Tx K mg base) : mg "repr" = none := PySem.W.mg_none_of T.kin T.ns (He.eqO_ok (T.says.more 76 (e := freeB "repr") rfl))
theorem Tx.b_reversed (T : Tx K mg base) : mg "reversed" = none := PySem.W.mg_none_of T.kin T.ns (He.eqO_ok (T.says.more 77 (e := freeB "reversed") rfl))
theorem Tx.b_str (T : Tx K mg base) : mg "str" = none := PySem.W.mg_none_of T.kin T.ns (He.eqO_ok (T.says.more 78 (e := freeB "str") rfl))
theorem Tx.b_tuple (T : Tx K mg base) : mg "tuple" = none := PySem.W.mg_none_of T.kin T.ns (He.eqO_ok (T.says.more 79 (e := freeB "tuple") rfl))
theorem Tx.c_BEATS (T : Tx K mg base) : ∃ u, mg "BEATS" = some u ∧ RelV (.str "beats") u := conB_ok T.kin T.ns (T.says.more 80 (e := conB "BEATS" (.str "beats")) rfl)
theorem Tx.c_SECONDS (T : Tx K mg base) : ∃ u, mg "SECONDS" = some u ∧ RelV (.str "seconds") u := conB_ok T.kin T.ns (T.says.more 81 (e := conB "SECONDS" (.str "seconds")) rfl)
theorem Tx.l_UNITS (T : Tx K mg base) (H : Hp) : SqL K H (He.ga K "UNITS") [.str "beats", .str "seconds"] := He.lstB_ok (T.says.more 82 (e := lstB "UNITS" [.str "beats", .str "seconds"]) rfl) H
theorem Tx.g_UNITS (T : Tx K mg base) : mg "UNITS" = some (.ref (He.ga K "UNITS")) := PySem.W.mg_of T.kin T.ns (He.eqO_ok (T.says.more 83 (e := gloB "UNITS") rfl))
theorem Tx.c_LETTERS (T : Tx K mg base) : ∃ u, mg "LETTERS" = some u ∧ RelV (.str "abcdefghijklmnopqrstuvwxyz") u := conB_ok T.kin T.ns (T.says.more 84 (e := conB "LETTERS" (.str "abcdefghijklmnopqrstuvwxyz")) rfl)
theorem Tx.c_DIGITS (T : Tx K mg base) : ∃ u, mg "DIGITS" = some u ∧ RelV (.str "0123456789") u := conB_ok T.kin T.ns (T.says.more 85 (e := conB "DIGITS" (.str "0123456789")) rfl)
theorem Tx.c_LONGEST_NAME (T : Tx K mg base) : ∃ u, mg "LONGEST_NAME" = some u ∧ RelV (.int 8) u := conB_ok T.kin T.ns (T.says.more 86 (e := conB "LONGEST_NAME" (.int 8)) rfl)
theorem Tx.c_START (T : Tx K mg base) : ∃ u, mg "START" = some u ∧ RelV (.str "start") u := conB_ok T.kin T.ns (T.says.more 87 (e := conB "START" (.str "start")) rfl)
theorem Tx.c_MOST_MOMENTS (T : Tx K mg base) : ∃ u, mg "MOST_MOMENTS" = some u ∧ RelV (.int 8) u := conB_ok T.kin T.ns (T.says.more 88 (e := conB "MOST_MOMENTS" (.int 8)) rfl)
theorem Tx.cls_Amount (T : Tx K mg base) : Cls K (He.ga K "Amount") := He.cls_ok (T.says.more 89 (e := clsB "Amount") rfl)
theorem Tx.mkr_Amount (T : Tx K mg base) : Mk K (He.ga K "Amount") (He.ma K (He.ga K "Amount") "__init__") := He.mkr_ok (T.says.more 90 (e := mkrB "Amount") rfl)
theorem Tx.ins_Amount (T : Tx K mg base) {H : Hp} {a dx : Addr} {fs : List (Str × V)} (e : H a = some (.ins (He.ga K "Amount") dx fs)) : TyX K H (.ref a) (.ref (He.ga K "Amount")) := insB_ok (T.says.more 91 (e := insB "Amount") rfl) T.cls_Amount e
theorem Tx.m_Amount_init_ (T : Tx K mg base) : Meth K (He.ga K "Amount") "__init__" (He.ma K (He.ga K "Amount") "__init__") := He.meth_ok (T.says.more 92 (e := methB "Amount" "__init__") rfl)
theorem Tx.m_Amount_eq_ (T : Tx K mg base) : Meth K (He.ga K "Amount") "__eq__" (He.ma K (He.ga K "Amount") "__eq__") := He.meth_ok (T.says.more 93 (e := methB "Amount" "__eq__") rfl)
theorem Tx.m_Amount_add_ (T : Tx K mg base) : Meth K (He.ga K "Amount") "__add__" (He.ma K (He.ga K "Amount") "__add__") := He.meth_ok (T.says.more 94 (e := methB "Amount" "__add__") rfl)
theorem Tx.m_Amount_sub_ (T : Tx K mg base) : Meth K (He.ga K "Amount") "__sub__" (He.ma K (He.ga K "Amount") "__sub__") := He.meth_ok (T.says.more 95 (e := methB "Amount" "__sub__") rfl)
theorem Tx.m_Amount_mul_ (T : Tx K mg base) : Meth K (He.ga K "Amount") "__mul__" (He.ma K (He.ga K "Amount") "__mul__") := He.meth_ok (T.says.more 96 (e := methB "Amount" "__mul__") rfl)
theorem Tx.m_Amount_divided (T : Tx K mg base) : Meth K (He.ga K "Amount") "divided" (He.ma K (He.ga K "Amount") "divided") := He.meth_ok (T.says.more 97 (e := methB "Amount" "divided") rfl)
theorem Tx.m_Amount_neg_ (T : Tx K mg base) : Meth K (He.ga K "Amount") "__neg__" (He.ma K (He.ga K "Amount") "__neg__") := He.meth_ok (T.says.more 98 (e := methB "Amount" "__neg__") rfl)
theorem Tx.m_Amount_abs_ (T : Tx K mg base) : Meth K (He.ga K "Amount") "__abs__" (He.ma K (He.ga K "Amount") "__abs__") := He.meth_ok (T.says.more 99 (e := methB "Amount" "__abs__") rfl)
theorem Tx.m_Amount_compare (T : Tx K mg base) : Meth K (He.ga K "Amount") "compare" (He.ma K (He.ga K "Amount") "compare") := He.meth_ok (T.says.more 100 (e := methB "Amount" "compare") rfl)
theorem Tx.no_Amount_own_top (T : Tx K mg base) : NoAttr K (He.ga K "Amount") "own_top" := He.noat_ok (T.says.more 101 (e := noatB "Amount" "own_top") rfl)
theorem Tx.no_Amount_own_bottom (T : Tx K mg base) : NoAttr K (He.ga K "Amount") "own_bottom" := He.noat_ok (T.says.more 102 (e := noatB "Amount" "own_bottom") rfl)
theorem Tx.pr_Amount_top (T : Tx K mg base) : ∃ p, PropOf K (He.ga K "Amount") "top" p (propAt "Amount" "top" K) := propB_ok (T.says.more 103 (e := propB "Amount" "top") rfl)
theorem Tx.pr_Amount_bottom (T : Tx K mg base) : ∃ p, PropOf K (He.ga K "Amount") "bottom" p (propAt "Amount" "bottom" K) := propB_ok (T.says.more 104 (e := propB "Amount" "bottom") rfl)
theorem Tx.k_NoneType_Amount (T : Tx K mg base) : PySem.W.kitOne K ((fun _ => .type "NoneType") K) ((fun K => .ref (He.ga K "Amount")) K) = some false := kitB_ok (T.says.more 105 (e := kitB (fun _ => .type "NoneType") (fun K => .ref (He.ga K "Amount")) false) rfl)
theorem Tx.k_bool_Amount (T : Tx K mg base) : PySem.W.kitOne K ((fun _ => .type "bool") K) ((fun K => .ref (He.ga K "Amount")) K) = some false := kitB_ok (T.says.more 106 (e := kitB (fun _ => .type "bool") (fun K => .ref (He.ga K "Amount")) false) rfl)
theorem Tx.k_int_Amount (T : Tx K mg base) : PySem.W.kitOne K ((fun _ => .type "int") K) ((fun K => .ref (He.ga K "Amount")) K) = some false := kitB_ok (T.says.more 107 (e := kitB (fun _ => .type "int") (fun K => .ref (He.ga K "Amount")) false) rfl)
theorem Tx.k_str_Amount (T : Tx K mg base) : PySem.W.kitOne K ((fun _ => .type "str") K) ((fun K => .ref (He.ga K "Amount")) K) = some false := kitB_ok (T.says.more 108 (e := kitB (fun _ => .type "str") (fun K => .ref (He.ga K "Amount")) false) rfl)
theorem Tx.k_list_Amount (T : Tx K mg base) : PySem.W.kitOne K ((fun _ => .type "list") K) ((fun K => .ref (He.ga K "Amount")) K) = some false := kitB_ok (T.says.more 109 (e := kitB (fun _ => .type "list") (fun K => .ref (He.ga K "Amount")) false) rfl)
theorem Tx.k_tuple_Amount (T : Tx K mg base) : PySem.W.kitOne K ((fun _ => .type "tuple") K) ((fun K => .ref (He.ga K "Amount")) K) = some false := kitB_ok (T.says.more 110 (e := kitB (fun _ => .type "tuple") (fun K => .ref (He.ga K "Amount")) false) rfl)
theorem Tx.k_dict_Amount (T : Tx K mg base) : PySem.W.kitOne K ((fun _ => .type "dict") K) ((fun K => .ref (He.ga K "Amount")) K) = some false := kitB_ok (T.says.more 111 (e := kitB (fun _ => .type "dict") (fun K => .ref (He.ga K "Amount")) false) rfl)
theorem Tx.k_Amount_Amount (T : Tx K mg base) : PySem.W.kitOne K ((fun K => .ref (He.ga K "Amount")) K) ((fun K => .ref (He.ga K "Amount")) K) = some true := kitB_ok (T.says.more 112 (e := kitB (fun K => .ref (He.ga K "Amount")) (fun K => .ref (He.ga K "Amount")) true) rfl)
theorem Tx.k_Amount_Sheet (T : Tx K mg base) : PySem.W.kitOne K ((fun K => .ref (He.ga K "Amount")) K) ((fun K => .ref (He.ga K "Sheet")) K) = some false := kitB_ok (T.says.more 113 (e := kitB (fun K => .ref (He.ga K "Amount")) (fun K => .ref (He.ga K "Sheet")) false) rfl)
theorem Tx.k_Amount_bool (T : Tx K mg base) : PySem.W.kitOne K ((fun K => .ref (He.ga K "Amount")) K) ((fun _ => .type "bool") K) = some false := kitB_ok (T.says.more 114 (e := kitB (fun K => .ref (He.ga K "Amount")) (fun _ => .type "bool") false) rfl)
theorem Tx.k_Amount_int (T : Tx K mg base) : PySem.W.kitOne K ((fun K => .ref (He.ga K "Amount")) K) ((fun _ => .type "int") K) = some false := kitB_ok (T.says.more 115 (e := kitB (fun K => .ref (He.ga K "Amount")) (fun _ => .type "int") false) rfl)
theorem Tx.k_Amount_str (T : Tx K mg base) : PySem.W.kitOne K ((fun K => .ref (He.ga K "Amount")) K) ((fun _ => .type "str") K) = some false := kitB_ok (T.says.more 116 (e := kitB (fun K => .ref (He.ga K "Amount")) (fun _ => .type "str") false) rfl)
theorem Tx.k_Amount_list (T : Tx K mg base) : PySem.W.kitOne K ((fun K => .ref (He.ga K "Amount")) K) ((fun _ => .type "list") K) = some false := kitB_ok (T.says.more 117 (e := kitB (fun K => .ref (He.ga K "Amount")) (fun _ => .type "list") false) rfl)
theorem Tx.k_Amount_tuple (T : Tx K mg base) : PySem.W.kitOne K ((fun K => .ref (He.ga K "Amount")) K) ((fun _ => .type "tuple") K) = some false := kitB_ok (T.says.more 118 (e := kitB (fun K => .ref (He.ga K "Amount")) (fun _ => .type "tuple") false) rfl)
theorem Tx.k_Amount_dict (T : Tx K mg base) : PySem.W.kitOne K ((fun K => .ref (He.ga K "Amount")) K) ((fun _ => .type "dict") K) = some false := kitB_ok (T.says.more 119 (e := kitB (fun K => .ref (He.ga K "Amount")) (fun _ => .type "dict") false) rfl)
theorem Tx.cls_Sheet (T : Tx K mg base) : Cls K (He.ga K "Sheet") := He.cls_ok (T.says.more 120 (e := clsB "Sheet") rfl)
theorem Tx.mkr_Sheet (T : Tx K mg base) : Mk K (He.ga K "Sheet") (He.ma K (He.ga K "Sheet") "__init__") := He.mkr_ok (T.says.more 121 (e := mkrB "Sheet") rfl)
theorem Tx.ins_Sheet (T : Tx K mg base) {H : Hp} {a dx : Addr} {fs : List (Str × V)} (e : H a = some (.ins (He.ga K "Sheet") dx fs)) : TyX K H (.ref a) (.ref (He.ga K "Sheet")) := insB_ok (T.says.more 122 (e := insB "Sheet") rfl) T.cls_Sheet e
theorem Tx.m_Sheet_init_ (T : Tx K mg base) : Meth K (He.ga K "Sheet") "__init__" (He.ma K (He.ga K "Sheet") "__init__") := He.meth_ok (T.says.more 123 (e := methB "Sheet" "__init__") rfl)
theorem Tx.m_Sheet_take_in (T : Tx K mg base) : Meth K (He.ga K "Sheet") "take_in" (He.ma K (He.ga K "Sheet") "take_in") := He.meth_ok (T.says.more 124 (e := methB "Sheet" "take_in") rfl)
theorem Tx.m_Sheet_contains_ (T : Tx K mg base) : Meth K (He.ga K "Sheet") "__contains__" (He.ma K (He.ga K "Sheet") "__contains__") := He.meth_ok (T.says.more 125 (e := methB "Sheet" "__contains__") rfl)
theorem Tx.m_Sheet_len_ (T : Tx K mg base) : Meth K (He.ga K "Sheet") "__len__" (He.ma K (He.ga K "Sheet") "__len__") := He.meth_ok (T.says.more 126 (e := methB "Sheet" "__len__") rfl)
theorem Tx.m_Sheet_eq_ (T : Tx K mg base) : Meth K (He.ga K "Sheet") "__eq__" (He.ma K (He.ga K "Sheet") "__eq__") := He.meth_ok (T.says.more 127 (e := methB "Sheet" "__eq__") rfl)
theorem Tx.m_Sheet_need (T : Tx K mg base) : Meth K (He.ga K "Sheet") "need" (He.ma K (He.ga K "Sheet") "need") := He.meth_ok (T.says.more 128 (e := methB "Sheet" "need") rfl)
theorem Tx.m_Sheet_need_moment (T : Tx K mg base) : Meth K (He.ga K "Sheet") "need_moment" (He.ma K (He.ga K "Sheet") "need_moment") := He.meth_ok (T.says.more 129 (e := methB "Sheet" "need_moment") rfl)
theorem Tx.m_Sheet_names (T : Tx K mg base) : Meth K (He.ga K "Sheet") "names" (He.ma K (He.ga K "Sheet") "names") := He.meth_ok (T.says.more 130 (e := methB "Sheet" "names") rfl)
theorem Tx.m_Sheet_cues (T : Tx K mg base) : Meth K (He.ga K "Sheet") "cues" (He.ma K (He.ga K "Sheet") "cues") := He.meth_ok (T.says.more 131 (e := methB "Sheet" "cues") rfl)
theorem Tx.m_Sheet_cue (T : Tx K mg base) : Meth K (He.ga K "Sheet") "cue" (He.ma K (He.ga K "Sheet") "cue") := He.meth_ok (T.says.more 132 (e := methB "Sheet" "cue") rfl)
theorem Tx.m_Sheet_children (T : Tx K mg base) : Meth K (He.ga K "Sheet") "children" (He.ma K (He.ga K "Sheet") "children") := He.meth_ok (T.says.more 133 (e := methB "Sheet" "children") rfl)
theorem Tx.m_Sheet_row (T : Tx K mg base) : Meth K (He.ga K "Sheet") "row" (He.ma K (He.ga K "Sheet") "row") := He.meth_ok (T.says.more 134 (e := methB "Sheet" "row") rfl)
theorem Tx.m_Sheet_between (T : Tx K mg base) : Meth K (He.ga K "Sheet") "between" (He.ma K (He.ga K "Sheet") "between") := He.meth_ok (T.says.more 135 (e := methB "Sheet" "between") rfl)
theorem Tx.m_Sheet_same (T : Tx K mg base) : Meth K (He.ga K "Sheet") "same" (He.ma K (He.ga K "Sheet") "same") := He.meth_ok (T.says.more 136 (e := methB "Sheet" "same") rfl)
theorem Tx.m_Sheet_moments (T : Tx K mg base) : Meth K (He.ga K "Sheet") "moments" (He.ma K (He.ga K "Sheet") "moments") := He.meth_ok (T.says.more 137 (e := methB "Sheet" "moments") rfl)
theorem Tx.m_Sheet_moment (T : Tx K mg base) : Meth K (He.ga K "Sheet") "moment" (He.ma K (He.ga K "Sheet") "moment") := He.meth_ok (T.says.more 138 (e := methB "Sheet" "moment") rfl)
theorem Tx.m_Sheet_names_at (T : Tx K mg base) : Meth K (He.ga K "Sheet") "names_at" (He.ma K (He.ga K "Sheet") "names_at") := He.meth_ok (T.says.more 139 (e := methB "Sheet" "names_at") rfl)
theorem Tx.m_Sheet_shift_between (T : Tx K mg base) : Meth K (He.ga K "Sheet") "shift_between" (He.ma K (He.ga K "Sheet") "shift_between") := He.meth_ok (T.says.more 140 (e := methB "Sheet" "shift_between") rfl)
theorem Tx.m_Sheet_distance (T : Tx K mg base) : Meth K (He.ga K "Sheet") "distance" (He.ma K (He.ga K "Sheet") "distance") := He.meth_ok (T.says.more 141 (e := methB "Sheet" "distance") rfl)
theorem Tx.m_Sheet_line (T : Tx K mg base) : Meth K (He.ga K "Sheet") "line" (He.ma K (He.ga K "Sheet") "line") := He.meth_ok (T.says.more 142 (e := methB "Sheet" "line") rfl)
theorem Tx.no_Sheet_own_cues (T : Tx K mg base) : NoAttr K (He.ga K "Sheet") "own_cues" := He.noat_ok (T.says.more 143 (e := noatB "Sheet" "own_cues") rfl)
theorem Tx.no_Sheet_own_rows (T : Tx K mg base) : NoAttr K (He.ga K "Sheet") "own_rows" := He.noat_ok (T.says.more 144 (e := noatB "Sheet" "own_rows") rfl)
theorem Tx.no_Sheet_own_moments (T : Tx K mg base) : NoAttr K (He.ga K "Sheet") "own_moments" := He.noat_ok (T.says.more 145 (e := noatB "Sheet" "own_moments") rfl)
theorem Tx.no_Sheet_own_ways (T : Tx K mg base) : NoAttr K (He.ga K "Sheet") "own_ways" := He.noat_ok (T.says.more 146 (e := noatB "Sheet" "own_ways") rfl)
theorem Tx.k_NoneType_Sheet (T : Tx K mg base) : PySem.W.kitOne K ((fun _ => .type "NoneType") K) ((fun K => .ref (He.ga K "Sheet")) K) = some false := kitB_ok (T.says.more 147 (e := kitB (fun _ => .type "NoneType") (fun K => .ref (He.ga K "Sheet")) false) rfl)
theorem Tx.k_bool_Sheet (T : Tx K mg base) : PySem.W.kitOne K ((fun _ => .type "bool") K) ((fun K => .ref (He.ga K "Sheet")) K) = some false := kitB_ok (T.says.more 148 (e := kitB (fun _ => .type "bool") (fun K => .ref (He.ga K "Sheet")) false) rfl)
theorem Tx.k_int_Sheet (T : Tx K mg base) : PySem.W.kitOne K ((fun _ => .type "int") K) ((fun K => .ref (He.ga K "Sheet")) K) = some false := kitB_ok (T.says.more 149 (e := kitB (fun _ => .type "int") (fun K => .ref (He.ga K "Sheet")) false) rfl)
theorem Tx.k_str_Sheet (T : Tx K mg base) : PySem.W.kitOne K ((fun _ => .type "str") K) ((fun K => .ref (He.ga K "Sheet")) K) = some false := kitB_ok (T.says.more 150 (e := kitB (fun _ => .type "str") (fun K => .ref (He.ga K "Sheet")) false) rfl)
theorem Tx.k_list_Sheet (T : Tx K mg base) : PySem.W.kitOne K ((fun _ => .type "list") K) ((fun K => .ref (He.ga K "Sheet")) K) = some false := kitB_ok (T.says.more 151 (e := kitB (fun _ => .type "list") (fun K => .ref (He.ga K "Sheet")) false) rfl)
theorem Tx.k_tuple_Sheet (T : Tx K mg base) : PySem.W.kitOne K ((fun _ => .type "tuple") K) ((fun K => .ref (He.ga K "Sheet")) K) = some false := kitB_ok (T.says.more 152 (e := kitB (fun _ => .type "tuple") (fun K => .ref (He.ga K "Sheet")) false) rfl)
theorem Tx.k_dict_Sheet (T : Tx K mg base) : PySem.W.kitOne K ((fun _ => .type "dict") K) ((fun K => .ref (He.ga K "Sheet")) K) = some false := kitB_ok (T.says.more 153 (e := kitB (fun _ => .type "dict") (fun K => .ref (He.ga K "Sheet")) false) rfl)
theorem Tx.k_Sheet_Sheet (T : Tx K mg base) : PySem.W.kitOne K ((fun K => .ref (He.ga K "Sheet")) K) ((fun K => .ref (He.ga K "Sheet")) K) = some true := kitB_ok (T.says.more 154 (e := kitB (fun K => .ref (He.ga K "Sheet")) (fun K => .ref (He.ga K "Sheet")) true) rfl)
theorem Tx.k_Sheet_Amount (T : Tx K mg base) : PySem.W.kitOne K ((fun K => .ref (He.ga K "Sheet")) K) ((fun K => .ref (He.ga K "Amount")) K) = some false := kitB_ok (T.says.more 155 (e := kitB (fun K => .ref (He.ga K "Sheet")) (fun K => .ref (He.ga K "Amount")) false) rfl)
theorem Tx.k_Sheet_bool (T : Tx K mg base) : PySem.W.kitOne K ((fun K => .ref (He.ga K "Sheet")) K) ((fun _ => .type "bool") K) = some false := kitB_ok (T.says.more 156 (e := kitB (fun K => .ref (He.ga K "Sheet")) (fun _ => .type "bool") false) rfl)
theorem Tx.k_Sheet_int (T : Tx K mg base) : PySem.W.kitOne K ((fun K => .ref (He.ga K "Sheet")) K) ((fun _ => .type "int") K) = some false := kitB_ok (T.says.more 157 (e := kitB (fun K => .ref (He.ga K "Sheet")) (fun _ => .type "int") false) rfl)
theorem Tx.k_Sheet_str (T : Tx K mg base) : PySem.W.kitOne K ((fun K => .ref (He.ga K "Sheet")) K) ((fun _ => .type "str") K) = some false := kitB_ok (T.says.more 158 (e := kitB (fun K => .ref (He.ga K "Sheet")) (fun _ => .type "str") false) rfl)
theorem Tx.k_Sheet_list (T : Tx K mg base) : PySem.W.kitOne K ((fun K => .ref (He.ga K "Sheet")) K) ((fun _ => .type "list") K) = some false := kitB_ok (T.says.more 159 (e := kitB (fun K => .ref (He.ga K "Sheet")) (fun _ => .type "list") false) rfl)
theorem Tx.k_Sheet_tuple (T : Tx K mg base) : PySem.W.kitOne K ((fun K => .ref (He.ga K "Sheet")) K) ((fun _ => .type "tuple") K) = some false := kitB_ok (T.says.more 160 (e := kitB (fun K => .ref (He.ga K "Sheet")) (fun _ => .type "tuple") false) rfl)
theorem Tx.k_Sheet_dict (T : Tx K mg base) : PySem.W.kitOne K ((fun K => .ref (He.ga K "Sheet")) K) ((fun _ => .type "dict") K) = some false := kitB_ok (T.says.more 161 (e := kitB (fun K => .ref (He.ga K "Sheet")) (fun _ => .type "dict") false) rfl)
theorem Tx.ba_CueError (T : Tx K mg base) : Ba K "CueError" := baB_ok (T.says.more 162 (e := fun K => baB K "CueError") rfl)
theorem Tx.xc_InvalidInteger (T : Tx K mg base) : Xc K "InvalidInteger" "value" := xcB_ok (T.says.more 163 (e := fun K => xcB K "InvalidInteger" "value") rfl)
theorem Tx.xc_InvalidAmount (T : Tx K mg base) : Xc K "InvalidAmount" "value" := xcB_ok (T.says.more 164 (e := fun K => xcB K "InvalidAmount" "value") rfl)
theorem Tx.xc_InvalidPart (T : Tx K mg base) : Xc K "InvalidPart" "value" := xcB_ok (T.says.more 165 (e := fun K => xcB K "InvalidPart" "value") rfl)
theorem Tx.xc_InvalidName (T : Tx K mg base) : Xc K "InvalidName" "value" := xcB_ok (T.says.more 166 (e := fun K => xcB K "InvalidName" "value") rfl)
theorem Tx.xc_InvalidUnit (T : Tx K mg base) : Xc K "InvalidUnit" "value" := xcB_ok (T.says.more 167 (e := fun K => xcB K "InvalidUnit" "value") rfl)
theorem Tx.xc_InvalidCue (T : Tx K mg base) : Xc K "InvalidCue" "value" := xcB_ok (T.says.more 168 (e := fun K => xcB K "InvalidCue" "value") rfl)
theorem Tx.xc_Duplicate (T : Tx K mg base) : Xc K "Duplicate" "label" := xcB_ok (T.says.more 169 (e := fun K => xcB K "Duplicate" "label") rfl)
theorem Tx.xc_InvalidSheet (T : Tx K mg base) : Xc K "InvalidSheet" "value" := xcB_ok (T.says.more 170 (e := fun K => xcB K "InvalidSheet" "value") rfl)
theorem Tx.bg_MissingError (T : Tx K mg base) : BaG K "KeyError" "KeyError.__init__" "MissingError" := baGB_ok iniK (T.says.more 171 (e := baGB "KeyError.__init__" "MissingError") rfl)
theorem Tx.bg_StateError (T : Tx K mg base) : BaG K "LookupError" "LookupError.__init__" "StateError" := baGB_ok iniL (T.says.more 172 (e := baGB "LookupError.__init__" "StateError") rfl)
theorem Tx.xg_UnknownCue (T : Tx K mg base) : XcG K "KeyError" "UnknownCue" "label" := xcGB_ok tlK (T.says.more 173 (e := xcGB keTail "UnknownCue" "label") rfl)
theorem Tx.xg_TooMany (T : Tx K mg base) : XcG K "LookupError" "TooMany" "most" := xcGB_ok tlL (T.says.more 174 (e := xcGB leTail "TooMany" "most") rfl)
theorem Tx.ex_InvalidAmount_InvalidAmount (T : Tx K mg base) : PySem.W.exmOne K (.ref (He.ga K "InvalidAmount")) (.ref (He.ga K "InvalidAmount")) = some true := He.exm_ok (T.says.more 175 (e := exmB "InvalidAmount" "InvalidAmount" true) rfl)
theorem Tx.ex_InvalidAmount_InvalidName (T : Tx K mg base) : PySem.W.exmOne K (.ref (He.ga K "InvalidAmount")) (.ref (He.ga K "InvalidName")) = some false := He.exm_ok (T.says.more 176 (e := exmB "InvalidAmount" "InvalidName" false) rfl)
theorem Tx.ex_InvalidAmount_InvalidUnit (T : Tx K mg base) : PySem.W.exmOne K (.ref (He.ga K "InvalidAmount")) (.ref (He.ga K "InvalidUnit")) = some false := He.exm_ok (T.says.more 177 (e := exmB "InvalidAmount" "InvalidUnit" false) rfl)
theorem Tx.ex_InvalidAmount_Duplicate (T : Tx K mg base) : PySem.W.exmOne K (.ref (He.ga K "InvalidAmount")) (.ref (He.ga K "Duplicate")) = some false := He.exm_ok (T.says.more 178 (e := exmB "InvalidAmount" "Duplicate" false) rfl)
theorem Tx.ex_InvalidAmount_InvalidSheet (T : Tx K mg base) : PySem.W.exmOne K (.ref (He.ga K "InvalidAmount")) (.ref (He.ga K "InvalidSheet")) = some false := He.exm_ok (T.says.more 179 (e := exmB "InvalidAmount" "InvalidSheet" false) rfl)
theorem Tx.ex_InvalidAmount_UnknownCue (T : Tx K mg base) : PySem.W.exmOne K (.ref (He.ga K "InvalidAmount")) (.ref (He.ga K "UnknownCue")) = some false := He.exm_ok (T.says.more 180 (e := exmB "InvalidAmount" "UnknownCue" false) rfl)
theorem Tx.ex_InvalidAmount_TooMany (T : Tx K mg base) : PySem.W.exmOne K (.ref (He.ga K "InvalidAmount")) (.ref (He.ga K "TooMany")) = some false := He.exm_ok (T.says.more 181 (e := exmB "InvalidAmount" "TooMany" false) rfl)
theorem Tx.ex_InvalidName_InvalidAmount (T : Tx K mg base) : PySem.W.exmOne K (.ref (He.ga K "InvalidName")) (.ref (He.ga K "InvalidAmount")) = some false := He.exm_ok (T.says.more 182 (e := exmB "InvalidName" "InvalidAmount" false) rfl)
theorem Tx.ex_InvalidName_InvalidName (T : Tx K mg base) : PySem.W.exmOne K (.ref (He.ga K "InvalidName")) (.ref (He.ga K "InvalidName")) = some true := He.exm_ok (T.says.more 183 (e := exmB "InvalidName" "InvalidName" true) rfl)
theorem Tx.ex_InvalidName_InvalidUnit (T : Tx K mg base) : PySem.W.exmOne K (.ref (He.ga K "InvalidName")) (.ref (He.ga K "InvalidUnit")) = some false := He.exm_ok (T.says.more 184 (e := exmB "InvalidName" "InvalidUnit" false) rfl)
theorem Tx.ex_InvalidName_Duplicate (T : Tx K mg base) : PySem.W.exmOne K (.ref (He.ga K "InvalidName")) (.ref (He.ga K "Duplicate")) = some false := He.exm_ok (T.says.more 185 (e := exmB "InvalidName" "Duplicate" false) rfl)
theorem Tx.ex_InvalidName_InvalidSheet (T : Tx K mg base) : PySem.W.exmOne K (.ref (He.ga K "InvalidName")) (.ref (He.ga K "InvalidSheet")) = some false := He.exm_ok (T.says.more 186 (e := exmB "InvalidName" "InvalidSheet" false) rfl)
theorem Tx.ex_InvalidName_UnknownCue (T : Tx K mg base) : PySem.W.exmOne K (.ref (He.ga K "InvalidName")) (.ref (He.ga K "UnknownCue")) = some false := He.exm_ok (T.says.more 187 (e := exmB "InvalidName" "UnknownCue" false) rfl)
theorem Tx.ex_InvalidName_TooMany (T : Tx K mg base) : PySem.W.exmOne K (.ref (He.ga K "InvalidName")) (.ref (He.ga K "TooMany")) = some false := He.exm_ok (T.says.more 188 (e := exmB "InvalidName" "TooMany" false) rfl)
theorem Tx.ex_InvalidUnit_InvalidAmount (T : Tx K mg base) : PySem.W.exmOne K (.ref (He.ga K "InvalidUnit")) (.ref (He.ga K "InvalidAmount")) = some false := He.exm_ok (T.says.more 189 (e := exmB "InvalidUnit" "InvalidAmount" false) rfl)
theorem Tx.ex_InvalidUnit_InvalidName (T : Tx K mg base) : PySem.W.exmOne K (.ref (He.ga K "InvalidUnit")) (.ref (He.ga K "InvalidName")) = some false := He.exm_ok (T.says.more 190 (e := exmB "InvalidUnit" "InvalidName" false) rfl)
theorem Tx.ex_InvalidUnit_InvalidUnit (T : Tx K mg base) : PySem.W.exmOne K (.ref (He.ga K "InvalidUnit")) (.ref (He.ga K "InvalidUnit")) = some true := He.exm_ok (T.says.more 191 (e := exmB "InvalidUnit" "InvalidUnit" true) rfl)
theorem Tx.ex_InvalidUnit_Duplicate (T : Tx K mg base) : PySem.W.exmOne K (.ref (He.ga K "InvalidUnit")) (.ref (He.ga K "Duplicate")) = some false := He.exm_ok (T.says.more 192 (e := exmB "InvalidUnit" "Duplicate" false) rfl)
theorem Tx.ex_InvalidUnit_InvalidSheet (T : Tx K mg base) : PySem.W.exmOne K (.ref (He.ga K "InvalidUnit")) (.ref (He.ga K "InvalidSheet")) = some false := He.exm_ok (T.says.more 193 (e := exmB "InvalidUnit" "InvalidSheet" false) rfl)
theorem Tx.ex_InvalidUnit_UnknownCue (T : Tx K mg base) : PySem.W.exmOne K (.ref (He.ga K "InvalidUnit")) (.ref (He.ga K "UnknownCue")) = some false := He.exm_ok (T.says.more 194 (e := exmB "InvalidUnit" "UnknownCue" false) rfl)
theorem Tx.ex_InvalidUnit_TooMany (T : Tx K mg base) : PySem.W.exmOne K (.ref (He.ga K "InvalidUnit")) (.ref (He.ga K "TooMany")) = some false := He.exm_ok (T.says.more 195 (e := exmB "InvalidUnit" "TooMany" false) rfl)
theorem Tx.ex_Duplicate_InvalidAmount (T : Tx K mg base) : PySem.W.exmOne K (.ref (He.ga K "Duplicate")) (.ref (He.ga K "InvalidAmount")) = some false := He.exm_ok (T.says.more 196 (e := exmB "Duplicate" "InvalidAmount" false) rfl)
theorem Tx.ex_Duplicate_InvalidName (T : Tx K mg base) : PySem.W.exmOne K (.ref (He.ga K "Duplicate")) (.ref (He.ga K "InvalidName")) = some false := He.exm_ok (T.says.more 197 (e := exmB "Duplicate" "InvalidName" false) rfl)
theorem Tx.ex_Duplicate_InvalidUnit (T : Tx K mg base) : PySem.W.exmOne K (.ref (He.ga K "Duplicate")) (.ref (He.ga K "InvalidUnit")) = some false := He.exm_ok (T.says.more 198 (e := exmB "Duplicate" "InvalidUnit" false) rfl)
theorem Tx.ex_Duplicate_Duplicate (T : Tx K mg base) : PySem.W.exmOne K (.ref (He.ga K "Duplicate")) (.ref (He.ga K "Duplicate")) = some true := He.exm_ok (T.says.more 199 (e := exmB "Duplicate" "Duplicate" true) rfl)
theorem Tx.ex_Duplicate_InvalidSheet (T : Tx K mg base) : PySem.W.exmOne K (.ref (He.ga K "Duplicate")) (.ref (He.ga K "InvalidSheet")) = some false := He.exm_ok (T.says.more 200 (e := exmB "Duplicate" "InvalidSheet" false) rfl)
theorem Tx.ex_Duplicate_UnknownCue (T : Tx K mg base) : PySem.W.exmOne K (.ref (He.ga K "Duplicate")) (.ref (He.ga K "UnknownCue")) = some false := He.exm_ok (T.says.more 201 (e := exmB "Duplicate" "UnknownCue" false) rfl)
theorem Tx.ex_Duplicate_TooMany (T : Tx K mg base) : PySem.W.exmOne K (.ref (He.ga K "Duplicate")) (.ref (He.ga K "TooMany")) = some false := He.exm_ok (T.says.more 202 (e := exmB "Duplicate" "TooMany" false) rfl)
theorem Tx.ex_InvalidSheet_InvalidAmount (T : Tx K mg base) : PySem.W.exmOne K (.ref (He.ga K "InvalidSheet")) (.ref (He.ga K "InvalidAmount")) = some false := He.exm_ok (T.says.more 203 (e := exmB "InvalidSheet" "InvalidAmount" false) rfl)
theorem Tx.ex_InvalidSheet_InvalidName (T : Tx K mg base) : PySem.W.exmOne K (.ref (He.ga K "InvalidSheet")) (.ref (He.ga K "InvalidName")) = some false := He.exm_ok (T.says.more 204 (e := exmB "InvalidSheet" "InvalidName" false) rfl)
theorem Tx.ex_InvalidSheet_InvalidUnit (T : Tx K mg base) : PySem.W.exmOne K (.ref (He.ga K "InvalidSheet")) (.ref (He.ga K "InvalidUnit")) = some false := He.exm_ok (T.says.more 205 (e := exmB "InvalidSheet" "InvalidUnit" false) rfl)
theorem Tx.ex_InvalidSheet_Duplicate (T : Tx K mg base) : PySem.W.exmOne K (.ref (He.ga K "InvalidSheet")) (.ref (He.ga K "Duplicate")) = some false := He.exm_ok (T.says.more 206 (e := exmB "InvalidSheet" "Duplicate" false) rfl)
theorem Tx.ex_InvalidSheet_InvalidSheet (T : Tx K mg base) : PySem.W.exmOne K (.ref (He.ga K "InvalidSheet")) (.ref (He.ga K "InvalidSheet")) = some true := He.exm_ok (T.says.more 207 (e := exmB "InvalidSheet" "InvalidSheet" true) rfl)
theorem Tx.ex_InvalidSheet_UnknownCue (T : Tx K mg base) : PySem.W.exmOne K (.ref (He.ga K "InvalidSheet")) (.ref (He.ga K "UnknownCue")) = some false := He.exm_ok (T.says.more 208 (e := exmB "InvalidSheet" "UnknownCue" false) rfl)
theorem Tx.ex_InvalidSheet_TooMany (T : Tx K mg base) : PySem.W.exmOne K (.ref (He.ga K "InvalidSheet")) (.ref (He.ga K "TooMany")) = some false := He.exm_ok (T.says.more 209 (e := exmB "InvalidSheet" "TooMany" false) rfl)
theorem Tx.ex_UnknownCue_InvalidAmount (T : Tx K mg base) : PySem.W.exmOne K (.ref (He.ga K "UnknownCue")) (.ref (He.ga K "InvalidAmount")) = some false := He.exm_ok (T.says.more 210 (e := exmB "UnknownCue" "InvalidAmount" false) rfl)
theorem Tx.ex_UnknownCue_InvalidName (T : Tx K mg base) : PySem.W.exmOne K (.ref (He.ga K "UnknownCue")) (.ref (He.ga K "InvalidName")) = some false := He.exm_ok (T.says.more 211 (e := exmB "UnknownCue" "InvalidName" false) rfl)
theorem Tx.ex_UnknownCue_InvalidUnit (T : Tx K mg base) : PySem.W.exmOne K (.ref (He.ga K "UnknownCue")) (.ref (He.ga K "InvalidUnit")) = some false := He.exm_ok (T.says.more 212 (e := exmB "UnknownCue" "InvalidUnit" false) rfl)
theorem Tx.ex_UnknownCue_Duplicate (T : Tx K mg base) : PySem.W.exmOne K (.ref (He.ga K "UnknownCue")) (.ref (He.ga K "Duplicate")) = some false := He.exm_ok (T.says.more 213 (e := exmB "UnknownCue" "Duplicate" false) rfl)
theorem Tx.ex_UnknownCue_InvalidSheet (T : Tx K mg base) : PySem.W.exmOne K (.ref (He.ga K "UnknownCue")) (.ref (He.ga K "InvalidSheet")) = some false := He.exm_ok (T.says.more 214 (e := exmB "UnknownCue" "InvalidSheet" false) rfl)
theorem Tx.ex_UnknownCue_UnknownCue (T : Tx K mg base) : PySem.W.exmOne K (.ref (He.ga K "UnknownCue")) (.ref (He.ga K "UnknownCue")) = some true := He.exm_ok (T.says.more 215 (e := exmB "UnknownCue" "UnknownCue" true) rfl)
theorem Tx.ex_UnknownCue_TooMany (T : Tx K mg base) : PySem.W.exmOne K (.ref (He.ga K "UnknownCue")) (.ref (He.ga K "TooMany")) = some false := He.exm_ok (T.says.more 216 (e := exmB "UnknownCue" "TooMany" false) rfl)
theorem Tx.ex_TooMany_InvalidAmount (T : Tx K mg base) : PySem.W.exmOne K (.ref (He.ga K "TooMany")) (.ref (He.ga K "InvalidAmount")) = some false := He.exm_ok (T.says.more 217 (e := exmB "TooMany" "InvalidAmount" false) rfl)
theorem Tx.ex_TooMany_InvalidName (T : Tx K mg base) : PySem.W.exmOne K (.ref (He.ga K "TooMany")) (.ref (He.ga K "InvalidName")) = some false := He.exm_ok (T.says.more 218 (e := exmB "TooMany" "InvalidName" false) rfl)
theorem Tx.ex_TooMany_InvalidUnit (T : Tx K mg base) : PySem.W.exmOne K (.ref (He.ga K "TooMany")) (.ref (He.ga K "InvalidUnit")) = some false := He.exm_ok (T.says.more 219 (e := exmB "TooMany" "InvalidUnit" false) rfl)
theorem Tx.ex_TooMany_Duplicate (T : Tx K mg base) : PySem.W.exmOne K (.ref (He.ga K "TooMany")) (.ref (He.ga K "Duplicate")) = some false := He.exm_ok (T.says.more 220 (e := exmB "TooMany" "Duplicate" false) rfl)
theorem Tx.ex_TooMany_InvalidSheet (T : Tx K mg base) : PySem.W.exmOne K (.ref (He.ga K "TooMany")) (.ref (He.ga K "InvalidSheet")) = some false := He.exm_ok (T.says.more 221 (e := exmB "TooMany" "InvalidSheet" false) rfl)
theorem Tx.ex_TooMany_UnknownCue (T : Tx K mg base) : PySem.W.exmOne K (.ref (He.ga K "TooMany")) (.ref (He.ga K "UnknownCue")) = some false := He.exm_ok (T.says.more 222 (e := exmB "TooMany" "UnknownCue" false) rfl)
theorem Tx.ex_TooMany_TooMany (T : Tx K mg base) : PySem.W.exmOne K (.ref (He.ga K "TooMany")) (.ref (He.ga K "TooMany")) = some true := He.exm_ok (T.says.more 223 (e := exmB "TooMany" "TooMany" true) rfl)
theorem Tx.eq_Amount (T : Tx K mg base) : EqC K (He.ga K "Amount") (He.ma K (He.ga K "Amount") "__eq__") := eqc_ok (T.says.more 224 (e := eqcB "Amount") rfl)
theorem Tx.op_Amount_add (T : Tx K mg base) : OpC K (He.ga K "Amount") (He.ma K (He.ga K "Amount") "__add__") "add" := opc_ok (T.says.more 225 (e := opcB "Amount" "__add__" "add") rfl)
theorem Tx.op_Amount_sub (T : Tx K mg base) : OpC K (He.ga K "Amount") (He.ma K (He.ga K "Amount") "__sub__") "sub" := opc_ok (T.says.more 226 (e := opcB "Amount" "__sub__" "sub") rfl)
theorem Tx.op_Amount_mul (T : Tx K mg base) : OpC K (He.ga K "Amount") (He.ma K (He.ga K "Amount") "__mul__") "mul" := opc_ok (T.says.more 227 (e := opcB "Amount" "__mul__" "mul") rfl)
theorem Tx.eq_Sheet (T : Tx K mg base) : EqC K (He.ga K "Sheet") (He.ma K (He.ga K "Sheet") "__eq__") := eqc_ok (T.says.more 228 (e := eqcB "Sheet") rfl)
theorem Tx.sys (T : Tx K mg base) : ∃ o, K.lookup sysModules = some o ∧ o.cls = .type "dict" := sysB_ok (T.says.more 229 (e := sysB) rfl)
theorem Tx.f_InvalidInteger_init_ (T : Tx K mg base) : ∃ fd, FunD K d_InvalidInteger_init_.name d_InvalidInteger_init_.qual (defArgs s_InvalidInteger_init_) (defBody s_InvalidInteger_init_) (defScope s_InvalidInteger_init_) (d_InvalidInteger_init_.dvs K) (d_InvalidInteger_init_.kws K) (d_InvalidInteger_init_.loc K) fd := T.says.fun_ 0 (d := d_InvalidInteger_init_) rfl
theorem Tx.f_InvalidAmount_init_ (T : Tx K mg base) : ∃ fd, FunD K d_InvalidAmount_init_.name d_InvalidAmount_init_.qual (defArgs s_InvalidAmount_init_) (defBody s_InvalidAmount_init_) (defScope s_InvalidAmount_init_) (d_InvalidAmount_init_.dvs K) (d_InvalidAmount_init_.kws K) (d_InvalidAmount_init_.loc K) fd := T.says.fun_ 1 (d := d_InvalidAmount_init_) rfl
theorem Tx.f_InvalidPart_init_ (T : Tx K mg base) : ∃ fd, FunD K d_InvalidPart_init_.name d_InvalidPart_init_.qual (defArgs s_InvalidPart_init_) (defBody s_InvalidPart_init_) (defScope s_InvalidPart_init_) (d_InvalidPart_init_.dvs K) (d_InvalidPart_init_.kws K) (d_InvalidPart_init_.loc K) fd := T.says.fun_ 2 (d := d_InvalidPart_init_) rfl
theorem Tx.f_InvalidName_init_ (T : Tx K mg base) : ∃ fd, FunD K d_InvalidName_init_.name d_InvalidName_init_.qual (defArgs s_InvalidName_init_) (defBody s_InvalidName_init_) (defScope s_InvalidName_init_) (d_InvalidName_init_.dvs K) (d_InvalidName_init_.kws K) (d_InvalidName_init_.loc K) fd := T.says.fun_ 3 (d := d_InvalidName_init_) rfl
theorem Tx.f_InvalidUnit_init_ (T : Tx K mg base) : ∃ fd, FunD K d_InvalidUnit_init_.name d_InvalidUnit_init_.qual (defArgs s_InvalidUnit_init_) (defBody s_InvalidUnit_init_) (defScope s_InvalidUnit_init_) (d_InvalidUnit_init_.dvs K) (d_InvalidUnit_init_.kws K) (d_InvalidUnit_init_.loc K) fd := T.says.fun_ 4 (d := d_InvalidUnit_init_) rfl
theorem Tx.f_InvalidCue_init_ (T : Tx K mg base) : ∃ fd, FunD K d_InvalidCue_init_.name d_InvalidCue_init_.qual (defArgs s_InvalidCue_init_) (defBody s_InvalidCue_init_) (defScope s_InvalidCue_init_) (d_InvalidCue_init_.dvs K) (d_InvalidCue_init_.kws K) (d_InvalidCue_init_.loc K) fd := T.says.fun_ 5 (d := d_InvalidCue_init_) rfl
theorem Tx.f_Duplicate_init_ (T : Tx K mg base) : ∃ fd, FunD K d_Duplicate_init_.name d_Duplicate_init_.qual (defArgs s_Duplicate_init_) (defBody s_Duplicate_init_) (defScope s_Duplicate_init_) (d_Duplicate_init_.dvs K) (d_Duplicate_init_.kws K) (d_Duplicate_init_.loc K) fd := T.says.fun_ 6 (d := d_Duplicate_init_) rfl
theorem Tx.f_InvalidSheet_init_ (T : Tx K mg base) : ∃ fd, FunD K d_InvalidSheet_init_.name d_InvalidSheet_init_.qual (defArgs s_InvalidSheet_init_) (defBody s_InvalidSheet_init_) (defScope s_InvalidSheet_init_) (d_InvalidSheet_init_.dvs K) (d_InvalidSheet_init_.kws K) (d_InvalidSheet_init_.loc K) fd := T.says.fun_ 7 (d := d_InvalidSheet_init_) rfl
theorem Tx.f_UnknownCue_init_ (T : Tx K mg base) : ∃ fd, FunD K d_UnknownCue_init_.name d_UnknownCue_init_.qual (defArgs s_UnknownCue_init_) (defBody s_UnknownCue_init_) (defScope s_UnknownCue_init_) (d_UnknownCue_init_.dvs K) (d_UnknownCue_init_.kws K) (d_UnknownCue_init_.loc K) fd := T.says.fun_ 8 (d := d_UnknownCue_init_) rfl
theorem Tx.f_TooMany_init_ (T : Tx K mg base) : ∃ fd, FunD K d_TooMany_init_.name d_TooMany_init_.qual (defArgs s_TooMany_init_) (defBody s_TooMany_init_) (defScope s_TooMany_init_) (d_TooMany_init_.dvs K) (d_TooMany_init_.kws K) (d_TooMany_init_.loc K) fd := T.says.fun_ 9 (d := d_TooMany_init_) rfl
theorem Tx.f_is_whole (T : Tx K mg base) : ∃ fd, FunD K d_is_whole.name d_is_whole.qual (defArgs s_is_whole) (defBody s_is_whole) (defScope s_is_whole) (d_is_whole.dvs K) (d_is_whole.kws K) (d_is_whole.loc K) fd := T.says.fun_ 10 (d := d_is_whole) rfl
theorem Tx.f_is_list (T : Tx K mg base) : ∃ fd, FunD K d_is_list.name d_is_list.qual (defArgs s_is_list) (defBody s_is_list) (defScope s_is_list) (d_is_list.dvs K) (d_is_list.kws K) (d_is_list.loc K) fd := T.says.fun_ 11 (d := d_is_list) rfl
theorem Tx.f_is_row (T : Tx K mg base) : ∃ fd, FunD K d_is_row.name d_is_row.qual (defArgs s_is_row) (defBody s_is_row) (defScope s_is_row) (d_is_row.dvs K) (d_is_row.kws K) (d_is_row.loc K) fd := T.says.fun_ 12 (d := d_is_row) rfl
theorem Tx.f_is_name (T : Tx K mg base) : ∃ fd, FunD K d_is_name.name d_is_name.qual (defArgs s_is_name) (defBody s_is_name) (defScope s_is_name) (d_is_name.dvs K) (d_is_name.kws K) (d_is_name.loc K) fd := T.says.fun_ 13 (d := d_is_name) rfl
theorem Tx.f_is_unit (T : Tx K mg base) : ∃ fd, FunD K d_is_unit.name d_is_unit.qual (defArgs s_is_unit) (defBody s_is_unit) (defScope s_is_unit) (d_is_unit.dvs K) (d_is_unit.kws K) (d_is_unit.loc K) fd := T.says.fun_ 14 (d := d_is_unit) rfl
theorem Tx.f_need_unit (T : Tx K mg base) : ∃ fd, FunD K d_need_unit.name d_need_unit.qual (defArgs s_need_unit) (defBody s_need_unit) (defScope s_need_unit) (d_need_unit.dvs K) (d_need_unit.kws K) (d_need_unit.loc K) fd := T.says.fun_ 15 (d := d_need_unit) rfl
theorem Tx.f_other_unit (T : Tx K mg base) : ∃ fd, FunD K d_other_unit.name d_other_unit.qual (defArgs s_other_unit) (defBody s_other_unit) (defScope s_other_unit) (d_other_unit.dvs K) (d_other_unit.kws K) (d_other_unit.loc K) fd := T.says.fun_ 16 (d := d_other_unit) rfl
theorem Tx.f_common_factor (T : Tx K mg base) : ∃ fd, FunD K d_common_factor.name d_common_factor.qual (defArgs s_common_factor) (defBody s_common_factor) (defScope s_common_factor) (d_common_factor.dvs K) (d_common_factor.kws K) (d_common_factor.loc K) fd := T.says.fun_ 17 (d := d_common_factor) rfl
theorem Tx.f_Amount_init_ (T : Tx K mg base) : ∃ fd, FunD K d_Amount_init_.name d_Amount_init_.qual (defArgs s_Amount_init_) (defBody s_Amount_init_) (defScope s_Amount_init_) (d_Amount_init_.dvs K) (d_Amount_init_.kws K) (d_Amount_init_.loc K) fd := T.says.fun_ 18 (d := d_Amount_init_) rfl
theorem Tx.f_Amount_top (T : Tx K mg base) : ∃ fd, FunD K d_Amount_top.name d_Amount_top.qual (defArgs s_Amount_top) (defBody s_Amount_top) (defScope s_Amount_top) (d_Amount_top.dvs K) (d_Amount_top.kws K) (d_Amount_top.loc K) fd := T.says.fun_ 19 (d := d_Amount_top) rfl
theorem Tx.f_Amount_bottom (T : Tx K mg base) : ∃ fd, FunD K d_Amount_bottom.name d_Amount_bottom.qual (defArgs s_Amount_bottom) (defBody s_Amount_bottom) (defScope s_Amount_bottom) (d_Amount_bottom.dvs K) (d_Amount_bottom.kws K) (d_Amount_bottom.loc K) fd := T.says.fun_ 20 (d := d_Amount_bottom) rfl
theorem Tx.f_Amount_eq_ (T : Tx K mg base) : ∃ fd, FunD K d_Amount_eq_.name d_Amount_eq_.qual (defArgs s_Amount_eq_) (defBody s_Amount_eq_) (defScope s_Amount_eq_) (d_Amount_eq_.dvs K) (d_Amount_eq_.kws K) (d_Amount_eq_.loc K) fd := T.says.fun_ 21 (d := d_Amount_eq_) rfl
theorem Tx.f_Amount_add_ (T : Tx K mg base) : ∃ fd, FunD K d_Amount_add_.name d_Amount_add_.qual (defArgs s_Amount_add_) (defBody s_Amount_add_) (defScope s_Amount_add_) (d_Amount_add_.dvs K) (d_Amount_add_.kws K) (d_Amount_add_.loc K) fd := T.says.fun_ 22 (d := d_Amount_add_) rfl
theorem Tx.f_Amount_sub_ (T : Tx K mg base) : ∃ fd, FunD K d_Amount_sub_.name d_Amount_sub_.qual (defArgs s_Amount_sub_) (defBody s_Amount_sub_) (defScope s_Amount_sub_) (d_Amount_sub_.dvs K) (d_Amount_sub_.kws K) (d_Amount_sub_.loc K) fd := T.says.fun_ 23 (d := d_Amount_sub_) rfl
theorem Tx.f_Amount_mul_ (T : Tx K mg base) : ∃ fd, FunD K d_Amount_mul_.name d_Amount_mul_.qual (defArgs s_Amount_mul_) (defBody s_Amount_mul_) (defScope s_Amount_mul_) (d_Amount_mul_.dvs K) (d_Amount_mul_.kws K) (d_Amount_mul_.loc K) fd := T.says.fun_ 24 (d := d_Amount_mul_) rfl
theorem Tx.f_Amount_divided (T : Tx K mg base) : ∃ fd, FunD K d_Amount_divided.name d_Amount_divided.qual (defArgs s_Amount_divided) (defBody s_Amount_divided) (defScope s_Amount_divided) (d_Amount_divided.dvs K) (d_Amount_divided.kws K) (d_Amount_divided.loc K) fd := T.says.fun_ 25 (d := d_Amount_divided) rfl
theorem Tx.f_Amount_neg_ (T : Tx K mg base) : ∃ fd, FunD K d_Amount_neg_.name d_Amount_neg_.qual (defArgs s_Amount_neg_) (defBody s_Amount_neg_) (defScope s_Amount_neg_) (d_Amount_neg_.dvs K) (d_Amount_neg_.kws K) (d_Amount_neg_.loc K) fd := T.says.fun_ 26 (d := d_Amount_neg_) rfl
theorem Tx.f_Amount_abs_ (T : Tx K mg base) : ∃ fd, FunD K d_Amount_abs_.name d_Amount_abs_.qual (defArgs s_Amount_abs_) (defBody s_Amount_abs_) (defScope s_Amount_abs_) (d_Amount_abs_.dvs K) (d_Amount_abs_.kws K) (d_Amount_abs_.loc K) fd := T.says.fun_ 27 (d := d_Amount_abs_) rfl
theorem Tx.f_Amount_compare (T : Tx K mg base) : ∃ fd, FunD K d_Amount_compare.name d_Amount_compare.qual (defArgs s_Amount_compare) (defBody s_Amount_compare) (defScope s_Amount_compare) (d_Amount_compare.dvs K) (d_Amount_compare.kws K) (d_Amount_compare.loc K) fd := T.says.fun_ 28 (d := d_Amount_compare) rfl
theorem Tx.f_is_amount (T : Tx K mg base) : ∃ fd, FunD K d_is_amount.name d_is_amount.qual (defArgs s_is_amount) (defBody s_is_amount) (defScope s_is_amount) (d_is_amount.dvs K) (d_is_amount.kws K) (d_is_amount.loc K) fd := T.says.fun_ 29 (d := d_is_amount) rfl
theorem Tx.f_amount_from (T : Tx K mg base) : ∃ fd, FunD K d_amount_from.name d_amount_from.qual (defArgs s_amount_from) (defBody s_amount_from) (defScope s_amount_from) (d_amount_from.dvs K) (d_amount_from.kws K) (d_amount_from.loc K) fd := T.says.fun_ 30 (d := d_amount_from) rfl
theorem Tx.f_extended (T : Tx K mg base) : ∃ fd, FunD K d_extended.name d_extended.qual (defArgs s_extended) (defBody s_extended) (defScope s_extended) (d_extended.dvs K) (d_extended.kws K) (d_extended.loc K) fd := T.says.fun_ 31 (d := d_extended) rfl
theorem Tx.f_opposite (T : Tx K mg base) : ∃ fd, FunD K d_opposite.name d_opposite.qual (defArgs s_opposite) (defBody s_opposite) (defScope s_opposite) (d_opposite.dvs K) (d_opposite.kws K) (d_opposite.loc K) fd := T.says.fun_ 32 (d := d_opposite) rfl
theorem Tx.f_joined (T : Tx K mg base) : ∃ fd, FunD K d_joined.name d_joined.qual (defArgs s_joined) (defBody s_joined) (defScope s_joined) (d_joined.dvs K) (d_joined.kws K) (d_joined.loc K) fd := T.says.fun_ 33 (d := d_joined) rfl
theorem Tx.f_told_row (T : Tx K mg base) : ∃ fd, FunD K d_told_row.name d_told_row.qual (defArgs s_told_row) (defBody s_told_row) (defScope s_told_row) (d_told_row.dvs K) (d_told_row.kws K) (d_told_row.loc K) fd := T.says.fun_ 34 (d := d_told_row) rfl
theorem Tx.f_Sheet_init_ (T : Tx K mg base) : ∃ fd, FunD K d_Sheet_init_.name d_Sheet_init_.qual (defArgs s_Sheet_init_) (defBody s_Sheet_init_) (defScope s_Sheet_init_) (d_Sheet_init_.dvs K) (d_Sheet_init_.kws K) (d_Sheet_init_.loc K) fd := T.says.fun_ 35 (d := d_Sheet_init_) rfl
theorem Tx.f_Sheet_take_in (T : Tx K mg base) : ∃ fd, FunD K d_Sheet_take_in.name d_Sheet_take_in.qual (defArgs s_Sheet_take_in) (defBody s_Sheet_take_in) (defScope s_Sheet_take_in) (d_Sheet_take_in.dvs K) (d_Sheet_take_in.kws K) (d_Sheet_take_in.loc K) fd := T.says.fun_ 36 (d := d_Sheet_take_in) rfl
theorem Tx.f_Sheet_contains_ (T : Tx K mg base) : ∃ fd, FunD K d_Sheet_contains_.name d_Sheet_contains_.qual (defArgs s_Sheet_contains_) (defBody s_Sheet_contains_) (defScope s_Sheet_contains_) (d_Sheet_contains_.dvs K) (d_Sheet_contains_.kws K) (d_Sheet_contains_.loc K) fd := T.says.fun_ 37 (d := d_Sheet_contains_) rfl
theorem Tx.f_Sheet_len_ (T : Tx K mg base) : ∃ fd, FunD K d_Sheet_len_.name d_Sheet_len_.qual (defArgs s_Sheet_len_) (defBody s_Sheet_len_) (defScope s_Sheet_len_) (d_Sheet_len_.dvs K) (d_Sheet_len_.kws K) (d_Sheet_len_.loc K) fd := T.says.fun_ 38 (d := d_Sheet_len_) rfl
theorem Tx.f_Sheet_eq_ (T : Tx K mg base) : ∃ fd, FunD K d_Sheet_eq_.name d_Sheet_eq_.qual (defArgs s_Sheet_eq_) (defBody s_Sheet_eq_) (defScope s_Sheet_eq_) (d_Sheet_eq_.dvs K) (d_Sheet_eq_.kws K) (d_Sheet_eq_.loc K) fd := T.says.fun_ 39 (d := d_Sheet_eq_) rfl
theorem Tx.f_Sheet_need (T : Tx K mg base) : ∃ fd, FunD K d_Sheet_need.name d_Sheet_need.qual (defArgs s_Sheet_need) (defBody s_Sheet_need) (defScope s_Sheet_need) (d_Sheet_need.dvs K) (d_Sheet_need.kws K) (d_Sheet_need.loc K) fd := T.says.fun_ 40 (d := d_Sheet_need) rfl
theorem Tx.f_Sheet_need_moment (T : Tx K mg base) : ∃ fd, FunD K d_Sheet_need_moment.name d_Sheet_need_moment.qual (defArgs s_Sheet_need_moment) (defBody s_Sheet_need_moment) (defScope s_Sheet_need_moment) (d_Sheet_need_moment.dvs K) (d_Sheet_need_moment.kws K) (d_Sheet_need_moment.loc K) fd := T.says.fun_ 41 (d := d_Sheet_need_moment) rfl
theorem Tx.f_Sheet_names (T : Tx K mg base) : ∃ fd, FunD K d_Sheet_names.name d_Sheet_names.qual (defArgs s_Sheet_names) (defBody s_Sheet_names) (defScope s_Sheet_names) (d_Sheet_names.dvs K) (d_Sheet_names.kws K) (d_Sheet_names.loc K) fd := T.says.fun_ 42 (d := d_Sheet_names) rfl
theorem Tx.f_Sheet_cues (T : Tx K mg base) : ∃ fd, FunD K d_Sheet_cues.name d_Sheet_cues.qual (defArgs s_Sheet_cues) (defBody s_Sheet_cues) (defScope s_Sheet_cues) (d_Sheet_cues.dvs K) (d_Sheet_cues.kws K) (d_Sheet_cues.loc K) fd := T.says.fun_ 43 (d := d_Sheet_cues) rfl
theorem Tx.f_Sheet_cue (T : Tx K mg base) : ∃ fd, FunD K d_Sheet_cue.name d_Sheet_cue.qual (defArgs s_Sheet_cue) (defBody s_Sheet_cue) (defScope s_Sheet_cue) (d_Sheet_cue.dvs K) (d_Sheet_cue.kws K) (d_Sheet_cue.loc K) fd := T.says.fun_ 44 (d := d_Sheet_cue) rfl
theorem Tx.f_Sheet_children (T : Tx K mg base) : ∃ fd, FunD K d_Sheet_children.name d_Sheet_children.qual (defArgs s_Sheet_children) (defBody s_Sheet_children) (defScope s_Sheet_children) (d_Sheet_children.dvs K) (d_Sheet_children.kws K) (d_Sheet_children.loc K) fd := T.says.fun_ 45 (d := d_Sheet_children) rfl
theorem Tx.f_Sheet_row (T : Tx K mg base) : ∃ fd, FunD K d_Sheet_row.name d_Sheet_row.qual (defArgs s_Sheet_row) (defBody s_Sheet_row) (defScope s_Sheet_row) (d_Sheet_row.dvs K) (d_Sheet_row.kws K) (d_Sheet_row.loc K) fd := T.says.fun_ 46 (d := d_Sheet_row) rfl
theorem Tx.f_Sheet_between (T : Tx K mg base) : ∃ fd, FunD K d_Sheet_between.name d_Sheet_between.qual (defArgs s_Sheet_between) (defBody s_Sheet_between) (defScope s_Sheet_between) (d_Sheet_between.dvs K) (d_Sheet_between.kws K) (d_Sheet_between.loc K) fd := T.says.fun_ 47 (d := d_Sheet_between) rfl
theorem Tx.f_Sheet_same (T : Tx K mg base) : ∃ fd, FunD K d_Sheet_same.name d_Sheet_same.qual (defArgs s_Sheet_same) (defBody s_Sheet_same) (defScope s_Sheet_same) (d_Sheet_same.dvs K) (d_Sheet_same.kws K) (d_Sheet_same.loc K) fd := T.says.fun_ 48 (d := d_Sheet_same) rfl
theorem Tx.f_Sheet_moments (T : Tx K mg base) : ∃ fd, FunD K d_Sheet_moments.name d_Sheet_moments.qual (defArgs s_Sheet_moments) (defBody s_Sheet_moments) (defScope s_Sheet_moments) (d_Sheet_moments.dvs K) (d_Sheet_moments.kws K) (d_Sheet_moments.loc K) fd := T.says.fun_ 49 (d := d_Sheet_moments) rfl
theorem Tx.f_Sheet_moment (T : Tx K mg base) : ∃ fd, FunD K d_Sheet_moment.name d_Sheet_moment.qual (defArgs s_Sheet_moment) (defBody s_Sheet_moment) (defScope s_Sheet_moment) (d_Sheet_moment.dvs K) (d_Sheet_moment.kws K) (d_Sheet_moment.loc K) fd := T.says.fun_ 50 (d := d_Sheet_moment) rfl
theorem Tx.f_Sheet_names_at (T : Tx K mg base) : ∃ fd, FunD K d_Sheet_names_at.name d_Sheet_names_at.qual (defArgs s_Sheet_names_at) (defBody s_Sheet_names_at) (defScope s_Sheet_names_at) (d_Sheet_names_at.dvs K) (d_Sheet_names_at.kws K) (d_Sheet_names_at.loc K) fd := T.says.fun_ 51 (d := d_Sheet_names_at) rfl
theorem Tx.f_Sheet_shift_between (T : Tx K mg base) : ∃ fd, FunD K d_Sheet_shift_between.name d_Sheet_shift_between.qual (defArgs s_Sheet_shift_between) (defBody s_Sheet_shift_between) (defScope s_Sheet_shift_between) (d_Sheet_shift_between.dvs K) (d_Sheet_shift_between.kws K) (d_Sheet_shift_between.loc K) fd := T.says.fun_ 52 (d := d_Sheet_shift_between) rfl
theorem Tx.f_Sheet_distance (T : Tx K mg base) : ∃ fd, FunD K d_Sheet_distance.name d_Sheet_distance.qual (defArgs s_Sheet_distance) (defBody s_Sheet_distance) (defScope s_Sheet_distance) (d_Sheet_distance.dvs K) (d_Sheet_distance.kws K) (d_Sheet_distance.loc K) fd := T.says.fun_ 53 (d := d_Sheet_distance) rfl
theorem Tx.f_Sheet_line (T : Tx K mg base) : ∃ fd, FunD K d_Sheet_line.name d_Sheet_line.qual (defArgs s_Sheet_line) (defBody s_Sheet_line) (defScope s_Sheet_line) (d_Sheet_line.dvs K) (d_Sheet_line.kws K) (d_Sheet_line.loc K) fd := T.says.fun_ 54 (d := d_Sheet_line) rfl
theorem Tx.f_need_sheet (T : Tx K mg base) : ∃ fd, FunD K d_need_sheet.name d_need_sheet.qual (defArgs s_need_sheet) (defBody s_need_sheet) (defScope s_need_sheet) (d_need_sheet.dvs K) (d_need_sheet.kws K) (d_need_sheet.loc K) fd := T.says.fun_ 55 (d := d_need_sheet) rfl
theorem Tx.f_unlike (T : Tx K mg base) : ∃ fd, FunD K d_unlike.name d_unlike.qual (defArgs s_unlike) (defBody s_unlike) (defScope s_unlike) (d_unlike.dvs K) (d_unlike.kws K) (d_unlike.loc K) fd := T.says.fun_ 56 (d := d_unlike) rfl
theorem Tx.f_is_alike (T : Tx K mg base) : ∃ fd, FunD K d_is_alike.name d_is_alike.qual (defArgs s_is_alike) (defBody s_is_alike) (defScope s_is_alike) (d_is_alike.dvs K) (d_is_alike.kws K) (d_is_alike.loc K) fd := T.says.fun_ 57 (d := d_is_alike) rfl
theorem Tx.f_exchanged (T : Tx K mg base) : ∃ fd, FunD K d_exchanged.name d_exchanged.qual (defArgs s_exchanged) (defBody s_exchanged) (defScope s_exchanged) (d_exchanged.dvs K) (d_exchanged.kws K) (d_exchanged.loc K) fd := T.says.fun_ 58 (d := d_exchanged) rfl
theorem Tx.f_reversed_sheet (T : Tx K mg base) : ∃ fd, FunD K d_reversed_sheet.name d_reversed_sheet.qual (defArgs s_reversed_sheet) (defBody s_reversed_sheet) (defScope s_reversed_sheet) (d_reversed_sheet.dvs K) (d_reversed_sheet.kws K) (d_reversed_sheet.loc K) fd := T.says.fun_ 59 (d := d_reversed_sheet) rfl
theorem Tx.f_need_factor (T : Tx K mg base) : ∃ fd, FunD K d_need_factor.name d_need_factor.qual (defArgs s_need_factor) (defBody s_need_factor) (defScope s_need_factor) (d_need_factor.dvs K) (d_need_factor.kws K) (d_need_factor.loc K) fd := T.says.fun_ 60 (d := d_need_factor) rfl
theorem Tx.f_stretched (T : Tx K mg base) : ∃ fd, FunD K d_stretched.name d_stretched.qual (defArgs s_stretched) (defBody s_stretched) (defScope s_stretched) (d_stretched.dvs K) (d_stretched.kws K) (d_stretched.loc K) fd := T.says.fun_ 61 (d := d_stretched) rfl
theorem Tx.f_attached (T : Tx K mg base) : ∃ fd, FunD K d_attached.name d_attached.qual (defArgs s_attached) (defBody s_attached) (defScope s_attached) (d_attached.dvs K) (d_attached.kws K) (d_attached.loc K) fd := T.says.fun_ 62 (d := d_attached) rfl
theorem Tx.f_w_cell (T : Tx K mg base) : ∃ fd, FunD K d_w_cell.name d_w_cell.qual (defArgs s_w_cell) (defBody s_w_cell) (defScope s_w_cell) (d_w_cell.dvs K) (d_w_cell.kws K) (d_w_cell.loc K) fd := T.says.fun_ 63 (d := d_w_cell) rfl
theorem Tx.f_w_box (T : Tx K mg base) : ∃ fd, FunD K d_w_box.name d_w_box.qual (defArgs s_w_box) (defBody s_w_box) (defScope s_w_box) (d_w_box.dvs K) (d_w_box.kws K) (d_w_box.loc K) fd := T.says.fun_ 64 (d := d_w_box) rfl
theorem Tx.f_w_take (T : Tx K mg base) : ∃ fd, FunD K d_w_take.name d_w_take.qual (defArgs s_w_take) (defBody s_w_take) (defScope s_w_take) (d_w_take.dvs K) (d_w_take.kws K) (d_w_take.loc K) fd := T.says.fun_ 65 (d := d_w_take) rfl
theorem Tx.f_w_lowest (T : Tx K mg base) : ∃ fd, FunD K d_w_lowest.name d_w_lowest.qual (defArgs s_w_lowest) (defBody s_w_lowest) (defScope s_w_lowest) (d_w_lowest.dvs K) (d_w_lowest.kws K) (d_w_lowest.loc K) fd := T.says.fun_ 66 (d := d_w_lowest) rfl
theorem Tx.f_w_added (T : Tx K mg base) : ∃ fd, FunD K d_w_added.name d_w_added.qual (defArgs s_w_added) (defBody s_w_added) (defScope s_w_added) (d_w_added.dvs K) (d_w_added.kws K) (d_w_added.loc K) fd := T.says.fun_ 67 (d := d_w_added) rfl
theorem Tx.f_w_amount (T : Tx K mg base) : ∃ fd, FunD K d_w_amount.name d_w_amount.qual (defArgs s_w_amount) (defBody s_w_amount) (defScope s_w_amount) (d_w_amount.dvs K) (d_w_amount.kws K) (d_w_amount.loc K) fd := T.says.fun_ 68 (d := d_w_amount) rfl
theorem Tx.f_w_led (T : Tx K mg base) : ∃ fd, FunD K d_w_led.name d_w_led.qual (defArgs s_w_led) (defBody s_w_led) (defScope s_w_led) (d_w_led.dvs K) (d_w_led.kws K) (d_w_led.loc K) fd := T.says.fun_ 69 (d := d_w_led) rfl
theorem Tx.f_w_rows (T : Tx K mg base) : ∃ fd, FunD K d_w_rows.name d_w_rows.qual (defArgs s_w_rows) (defBody s_w_rows) (defScope s_w_rows) (d_w_rows.dvs K) (d_w_rows.kws K) (d_w_rows.loc K) fd := T.says.fun_ 70 (d := d_w_rows) rfl
theorem Tx.f_w_moments (T : Tx K mg base) : ∃ fd, FunD K d_w_moments.name d_w_moments.qual (defArgs s_w_moments) (defBody s_w_moments) (defScope s_w_moments) (d_w_moments.dvs K) (d_w_moments.kws K) (d_w_moments.loc K) fd := T.says.fun_ 71 (d := d_w_moments) rfl
theorem Tx.f_w_cues (T : Tx K mg base) : ∃ fd, FunD K d_w_cues.name d_w_cues.qual (defArgs s_w_cues) (defBody s_w_cues) (defScope s_w_cues) (d_w_cues.dvs K) (d_w_cues.kws K) (d_w_cues.loc K) fd := T.says.fun_ 72 (d := d_w_cues) rfl
theorem Tx.f_w_passed (T : Tx K mg base) : ∃ fd, FunD K d_w_passed.name d_w_passed.qual (defArgs s_w_passed) (defBody s_w_passed) (defScope s_w_passed) (d_w_passed.dvs K) (d_w_passed.kws K) (d_w_passed.loc K) fd := T.says.fun_ 73 (d := d_w_passed) rfl
theorem Tx.f_w_plain (T : Tx K mg base) : ∃ fd, FunD K d_w_plain.name d_w_plain.qual (defArgs s_w_plain) (defBody s_w_plain) (defScope s_w_plain) (d_w_plain.dvs K) (d_w_plain.kws K) (d_w_plain.loc K) fd := T.says.fun_ 74 (d := d_w_plain) rfl
theorem Tx.f_w_times (T : Tx K mg base) : ∃ fd, FunD K d_w_times.name d_w_times.qual (defArgs s_w_times) (defBody s_w_times) (defScope s_w_times) (d_w_times.dvs K) (d_w_times.kws K) (d_w_times.loc K) fd := T.says.fun_ 75 (d := d_w_times) rfl
theorem Tx.f_w_turned_right (T : Tx K mg base) : ∃ fd, FunD K d_w_turned_right.name d_w_turned_right.qual (defArgs s_w_turned_right) (defBody s_w_turned_right) (defScope s_w_turned_right) (d_w_turned_right.dvs K) (d_w_turned_right.kws K) (d_w_turned_right.loc K) fd := T.says.fun_ 76 (d := d_w_turned_right) rfl
theorem Tx.f_w_mixed (T : Tx K mg base) : ∃ fd, FunD K d_w_mixed.name d_w_mixed.qual (defArgs s_w_mixed) (defBody s_w_mixed) (defScope s_w_mixed) (d_w_mixed.dvs K) (d_w_mixed.kws K) (d_w_mixed.loc K) fd := T.says.fun_ 77 (d := d_w_mixed) rfl
theorem Tx.f_w_unlike (T : Tx K mg base) : ∃ fd, FunD K d_w_unlike.name d_w_unlike.qual (defArgs s_w_unlike) (defBody s_w_unlike) (defScope s_w_unlike) (d_w_unlike.dvs K) (d_w_unlike.kws K) (d_w_unlike.loc K) fd := T.says.fun_ 78 (d := d_w_unlike) rfl
theorem Tx.f_w_alike_right (T : Tx K mg base) : ∃ fd, FunD K d_w_alike_right.name d_w_alike_right.qual (defArgs s_w_alike_right) (defBody s_w_alike_right) (defScope s_w_alike_right) (d_w_alike_right.dvs K) (d_w_alike_right.kws K) (d_w_alike_right.loc K) fd := T.says.fun_ 79 (d := d_w_alike_right) rfl
theorem Tx.f_w_due (T : Tx K mg base) : ∃ fd, FunD K d_w_due.name d_w_due.qual (defArgs s_w_due) (defBody s_w_due) (defScope s_w_due) (d_w_due.dvs K) (d_w_due.kws K) (d_w_due.loc K) fd := T.says.fun_ 80 (d := d_w_due) rfl
theorem Tx.f_w_is_named (T : Tx K mg base) : ∃ fd, FunD K d_w_is_named.name d_w_is_named.qual (defArgs s_w_is_named) (defBody s_w_is_named) (defScope s_w_is_named) (d_w_is_named.dvs K) (d_w_is_named.kws K) (d_w_is_named.loc K) fd := T.says.fun_ 81 (d := d_w_is_named) rfl
theorem Tx.f_w_told (T : Tx K mg base) : ∃ fd, FunD K d_w_told.name d_w_told.qual (defArgs s_w_told) (defBody s_w_told) (defScope s_w_told) (d_w_told.dvs K) (d_w_told.kws K) (d_w_told.loc K) fd := T.says.fun_ 82 (d := d_w_told) rfl
theorem Tx.f_w_odd_right (T : Tx K mg base) : ∃ fd, FunD K d_w_odd_right.name d_w_odd_right.qual (defArgs s_w_odd_right) (defBody s_w_odd_right) (defScope s_w_odd_right) (d_w_odd_right.dvs K) (d_w_odd_right.kws K) (d_w_odd_right.loc K) fd := T.says.fun_ 83 (d := d_w_odd_right) rfl
theorem Tx.f_w_start_right (T : Tx K mg base) : ∃ fd, FunD K d_w_start_right.name d_w_start_right.qual (defArgs s_w_start_right) (defBody s_w_start_right) (defScope s_w_start_right) (d_w_start_right.dvs K) (d_w_start_right.kws K) (d_w_start_right.loc K) fd := T.says.fun_ 84 (d := d_w_start_right) rfl
theorem Tx.f_law (T : Tx K mg base) : ∃ fd, FunD K d_law.name d_law.qual (defArgs s_law) (defBody s_law) (defScope s_law) (d_law.dvs K) (d_law.kws K) (d_law.loc K) fd := T.says.fun_ 85 (d := d_law) rfl
end
def nm0 : List PySem.Str := [("_wall" : PySem.Str), ("CueError" : PySem.Str), ("MissingError" : PySem.Str), ("StateError" : PySem.Str), ("InvalidInteger" : PySem.Str), ("InvalidAmount" : PySem.Str), ("InvalidPart" : PySem.Str), ("InvalidName" : PySem.Str), ("InvalidUnit" : PySem.Str), ("InvalidCue" : PySem.Str), ("Duplicate" : PySem.Str), ("InvalidSheet" : PySem.Str), ("UnknownCue" : PySem.Str), ("TooMany" : PySem.Str), ("BEATS" : PySem.Str), ("SECONDS" : PySem.Str), ("UNITS" : PySem.Str), ("LETTERS" : PySem.Str), ("DIGITS" : PySem.Str), ("LONGEST_NAME" : PySem.Str), ("is_whole" : PySem.Str), ("is_list" : PySem.Str), ("is_row" : PySem.Str), ("is_name" : PySem.Str), ("is_unit" : PySem.Str), ("need_unit" : PySem.Str), ("other_unit" : PySem.Str), ("common_factor" : PySem.Str), ("Amount" : PySem.Str), ("is_amount" : PySem.Str), ("amount_from" : PySem.Str), ("START" : PySem.Str), ("MOST_MOMENTS" : PySem.Str), ("extended" : PySem.Str), ("opposite" : PySem.Str)]
def nm1 : List PySem.Str := [("joined" : PySem.Str), ("told_row" : PySem.Str), ("Sheet" : PySem.Str), ("need_sheet" : PySem.Str), ("unlike" : PySem.Str), ("is_alike" : PySem.Str), ("exchanged" : PySem.Str), ("reversed_sheet" : PySem.Str), ("need_factor" : PySem.Str), ("stretched" : PySem.Str), ("attached" : PySem.Str), ("_law_cell" : PySem.Str), ("_law_box" : PySem.Str), ("_law_take" : PySem.Str), ("_law_lowest" : PySem.Str), ("_law_added" : PySem.Str), ("_law_amount" : PySem.Str), ("_law_led" : PySem.Str), ("_law_rows" : PySem.Str), ("_law_moments" : PySem.Str), ("_law_cues" : PySem.Str), ("_law_passed" : PySem.Str), ("_law_plain" : PySem.Str), ("_law_times" : PySem.Str), ("_law_turned_right" : PySem.Str), ("_law_mixed" : PySem.Str), ("_law_unlike" : PySem.Str), ("_law_alike_right" : PySem.Str), ("_law_due" : PySem.Str), ("_law_is_named" : PySem.Str), ("_law_told" : PySem.Str), ("_law_odd_right" : PySem.Str), ("_law_start_right" : PySem.Str)]
def names : List PySem.Str := nm0 ++ nm1
def lawAt : Nat := 74
end K34

set_option maxHeartbeats 0
namespace K34
open PySem PySem.W PySem.Calls PySem.Spec PyProof.Rows L2 AT
abbrev R : PySem.W.OpenRow := PySem.W.OpenLaw.row PySem.Challenge.rw_anytempo_k34_sheets_turned_and_joined
abbrev hk : PySem.W.Hook := hookB 5 fn ex
def ob (s : PySem.W.SharedT) : AlA := obsBG 5 fn ex (HandSHeadRun.getT s)
theorem ob_eq (s : PySem.W.SharedT) : ob s = hk.obs s.abs := obsBG_eq (HandSHeadRun.getT_eq s)
theorem run_l (w : World) : ∀ os, (runE R 20000 w os).map (fun s => HandSHeadRun.looksF R.prog (boot_heap w.params) s.abs) = some true := by
  intro os
  kernel_rfl
theorem run_s (w : World) : ∀ os, (runE R 20000 w os).map (fun s => HandSHeadRun.seenQ (PySem.W.view R.prog [lawAt]) names (importedModules R.prog.main.body) (fun s => xlAt (PySem.W.view R.prog [lawAt]) [] s && recOk R.toRowW.records s) s.abs) = some (openGood (PySem.W.view R.prog [lawAt]) names) := by
  intro os
  kernel_rfl
theorem run_x0 (w : World) : ∀ os, (runE R 20000 w os).map (fun s => ((ex.drop (0 * 240)).take 240).all (fun e => e (KofT 5 s))) = some true := by
  intro os
  kernel_rfl
theorem run_f0 (w : World) : ∀ os, (runE R 20000 w os).map (fun s => (((fn.drop (0 * 110)).take 110).all (fun d => d.ok (KofT 5 s)), ((fn.drop (0 * 110)).take 110).map fun d => fobs (KofT 5 s) (d.loc (KofT 5 s)))) = some (true, ((fn.drop (0 * 110)).take 110).map FD.val) := by
  intro os
  kernel_rfl
theorem run (w : World) : HandSHeadRun.RunEq R (PySem.W.view R.prog [lawAt]) hk ob 20000 names w :=
  run_parts (n := 5) (m := 1) (c := 240) (m' := 1) (c' := 110) (run_l w) (run_s w) (fun k hk => match k, hk with | 0, _ => run_x0 w | k + 1, hk => absurd hk (by omega)) (fun k hk => match k, hk with | 0, _ => run_f0 w | k + 1, hk => absurd hk (by omega)) (by decide) (by decide)
end K34

set_option maxHeartbeats 4000000
namespace K34
open PySem PySem.Spec PyProof.Rows L2 AT
/-! ### values of any kind -/
abbrev cA (K : PySem.W.Frag) : Addr := He.ga K "Amount"
def amtF (n d : Int) : List (Str × V) := [("own_top", .int n), ("own_bottom", .int d)]
def amtQ (q : Rat) : List (Str × V) := amtF q.num q.den
/-- at p stands an amount of the value q -/
def IsQ (K : PySem.W.Frag) (H : Hp) (p : Addr) (q : Rat) : Prop := ∃ dx, H p = some (.ins (cA K) dx (amtQ q))
/-- another class of the program -/
structure OthC (K : PySem.W.Frag) (C : Addr) : Prop where
  ty : ∀ {H : Hp} {a dx : Addr} {fs : List (Str × V)}, H a = some (.ins C dx fs) → TyX K H (.ref a) (.ref C)
  int : PySem.W.kitOne K (.ref C) (.type "int") = some false
  bool : PySem.W.kitOne K (.ref C) (.type "bool") = some false
  lst : PySem.W.kitOne K (.ref C) (.type "list") = some false
  tup : PySem.W.kitOne K (.ref C) (.type "tuple") = some false
  str : PySem.W.kitOne K (.ref C) (.type "str") = some false
  amt : PySem.W.kitOne K (.ref C) (.ref (cA K)) = some false
  ne : C ≠ cA K
inductive AnyV (K : PySem.W.Frag) (H : Hp) : V → Prop where
  | non : AnyV K H .non
  | bl (b : Bool) : AnyV K H (.bl b)
  | int (i : Int) : AnyV K H (.int i)
  | str (x : Str) : AnyV K H (.str x)
  | lst {a : Addr} {xs : List V} (e : H a = some (.lst xs)) : AnyV K H (.ref a)
  | tup {a : Addr} {xs : List V} (e : H a = some (.tup xs)) : AnyV K H (.ref a)
  | dct {a : Addr} {kvs : List (Key × V)} (e : H a = some (.dK kvs)) : AnyV K H (.ref a)
  | amt {a : Addr} {q : Rat} (e : IsQ K H a q) : AnyV K H (.ref a)
  | oth {a C dx : Addr} {fs : List (Str × V)} (o : OthC K C) (e : H a = some (.ins C dx fs)) : AnyV K H (.ref a)
theorem AnyV.up {K : PySem.W.Frag} {H H' : Hp} {v : V} (h : AnyV K H v) (s : Same H H') : AnyV K H' v := by
  cases h with
  | non => exact .non
  | bl b => exact .bl b
  | int i => exact .int i
  | str x => exact .str x
  | lst e => exact .lst (s _ _ e)
  | tup e => exact .tup (s _ _ e)
  | dct e => exact .dct (s _ _ e)
  | amt e => exact .amt (e.imp fun _ z => s _ _ z)
  | oth o e => exact .oth o (s _ _ e)
def wholeV : V → Bool
  | .int _ => true
  | _ => false
def intV : V → Bool
  | .int _ => true
  | .bl _ => true
  | _ => false
def blV : V → Bool
  | .bl _ => true
  | _ => false
def strV : V → Bool
  | .str _ => true
  | _ => false
section
variable {P : Program} {w : World} {K : PySem.W.Frag} {mg : Str → Option Value} {base : Heap}
theorem isi_int (T : Tx K mg base) {H : Hp} {v : V} (h : AnyV K H v) : ∃ t, TyX K H v t ∧ PySem.W.kitOne K t (.type "int") = some (intV v) := by
  cases h with
  | non  => exact ⟨_, .base .non, kit_ty (r := false) (by decide +kernel)⟩
  | bl b => exact ⟨_, .base (.bl b), kit_ty (r := true) (by decide +kernel)⟩
  | int i => exact ⟨_, .base (.int i), kit_ty (r := true) (by decide +kernel)⟩
  | str x => exact ⟨_, .base (.str x), kit_ty (r := false) (by decide +kernel)⟩
  | lst e => exact ⟨_, .base (.lst e), kit_ty (r := false) (by decide +kernel)⟩
  | tup e => exact ⟨_, .base (.tup e), kit_ty (r := false) (by decide +kernel)⟩
  | dct e => exact ⟨_, .base (.dK e), kit_ty (r := false) (by decide +kernel)⟩
  | amt e => obtain ⟨dx, e⟩ := e; exact ⟨_, T.ins_Amount e, T.k_Amount_int⟩
  | oth o e => exact ⟨_, o.ty e, o.int⟩
theorem isi_bool (T : Tx K mg base) {H : Hp} {v : V} (h : AnyV K H v) : ∃ t, TyX K H v t ∧ PySem.W.kitOne K t (.type "bool") = some (blV v) := by
  cases h with
  | non  => exact ⟨_, .base .non, kit_ty (r := false) (by decide +kernel)⟩
  | bl b => exact ⟨_, .base (.bl b), kit_ty (r := true) (by decide +kernel)⟩
  | int i => exact ⟨_, .base (.int i), kit_ty (r := false) (by decide +kernel)⟩
  | str x => exact ⟨_, .base (.str x), kit_ty (r := false) (by decide +kernel)⟩
  | lst e => exact ⟨_, .base (.lst e), kit_ty (r := false) (by decide +kernel)⟩
  | tup e => exact ⟨_, .base (.tup e), kit_ty (r := false) (by decide +kernel)⟩
  | dct e => exact ⟨_, .base (.dK e), kit_ty (r := false) (by decide +kernel)⟩
  | amt e => obtain ⟨dx, e⟩ := e; exact ⟨_, T.ins_Amount e, T.k_Amount_bool⟩
  | oth o e => exact ⟨_, o.ty e, o.bool⟩
/-- the type, as the operators ask for it -/
theorem IsQ.ofTy (T : Tx K mg base) {H : Hp} {a : Addr} {q : Rat} (h : IsQ K H a q) : OfTy K H (cA K) (.ref a) := by
  obtain ⟨dx, e⟩ := h
  exact ⟨_, T.ins_Amount e, .inl rfl⟩
/-! ### the exceptions -/
theorem ok_InvalidInteger_init_ (T : Tx K mg base) : Ok P w K mg base 1 (He.ma K (He.ga K "InvalidInteger") "__init__") ["self", "value"] (spXi K (He.ga K "InvalidInteger") "value") := by
  refine mk_ok (N := ["self", "value"]) T.f_InvalidInteger_init_ ⟨rfl, rfl, rfl, by decide +kernel, rfl, by decide +kernel, by decide +kernel⟩ (fun _ _ _ _ _ _ us hl => match us, hl with | [_, _], _ => rfl) (fun vs H Q E h => ?_) (fun cdv A outer s H vs Q E hr h => ?_)
  · obtain ⟨a, v, rfl, _⟩ := h
    rfl
  · exact ⟨_, pss_cons (ps_expr (pe_cinit T.ba_CueError rfl T.g_CueError (pa_cons (pv 0) (pa_cons pe_str pa_nil)))) (pss_one (ps_ost (pv 0) (pv 1))), xi_reading rfl vs H Q E h⟩
theorem mx_InvalidInteger {X : Cx} (T : Tx X.K X.mg X.base) (hr : Room 2 X.A) : MkX X "InvalidInteger" "value" := mk_X T.xc_InvalidInteger T.g_InvalidInteger (ok_InvalidInteger_init_ T) hr
theorem ok_InvalidAmount_init_ (T : Tx K mg base) : Ok P w K mg base 1 (He.ma K (He.ga K "InvalidAmount") "__init__") ["self", "value"] (spXi K (He.ga K "InvalidAmount") "value") := by
  refine mk_ok (N := ["self", "value"]) T.f_InvalidAmount_init_ ⟨rfl, rfl, rfl, by decide +kernel, rfl, by decide +kernel, by decide +kernel⟩ (fun _ _ _ _ _ _ us hl => match us, hl with | [_, _], _ => rfl) (fun vs H Q E h => ?_) (fun cdv A outer s H vs Q E hr h => ?_)
  · obtain ⟨a, v, rfl, _⟩ := h
    rfl
  · exact ⟨_, pss_cons (ps_expr (pe_cinit T.ba_CueError rfl T.g_CueError (pa_cons (pv 0) (pa_cons pe_str pa_nil)))) (pss_one (ps_ost (pv 0) (pv 1))), xi_reading rfl vs H Q E h⟩
theorem mx_InvalidAmount {X : Cx} (T : Tx X.K X.mg X.base) (hr : Room 2 X.A) : MkX X "InvalidAmount" "value" := mk_X T.xc_InvalidAmount T.g_InvalidAmount (ok_InvalidAmount_init_ T) hr
theorem ok_InvalidPart_init_ (T : Tx K mg base) : Ok P w K mg base 1 (He.ma K (He.ga K "InvalidPart") "__init__") ["self", "value"] (spXi K (He.ga K "InvalidPart") "value") := by
  refine mk_ok (N := ["self", "value"]) T.f_InvalidPart_init_ ⟨rfl, rfl, rfl, by decide +kernel, rfl, by decide +kernel, by decide +kernel⟩ (fun _ _ _ _ _ _ us hl => match us, hl with | [_, _], _ => rfl) (fun vs H Q E h => ?_) (fun cdv A outer s H vs Q E hr h => ?_)
  · obtain ⟨a, v, rfl, _⟩ := h
    rfl
  · exact ⟨_, pss_cons (ps_expr (pe_cinit T.ba_CueError rfl T.g_CueError (pa_cons (pv 0) (pa_cons pe_str pa_nil)))) (pss_one (ps_ost (pv 0) (pv 1))), xi_reading rfl vs H Q E h⟩
theorem mx_InvalidPart {X : Cx} (T : Tx X.K X.mg X.base) (hr : Room 2 X.A) : MkX X "InvalidPart" "value" := mk_X T.xc_InvalidPart T.g_InvalidPart (ok_InvalidPart_init_ T) hr
theorem ok_InvalidName_init_ (T : Tx K mg base) : Ok P w K mg base 1 (He.ma K (He.ga K "InvalidName") "__init__") ["self", "value"] (spXi K (He.ga K "InvalidName") "value") := by
  refine mk_ok (N := ["self", "value"]) T.f_InvalidName_init_ ⟨rfl, rfl, rfl, by decide +kernel, rfl, by decide +kernel, by decide +kernel⟩ (fun _ _ _ _ _ _ us hl => match us, hl with | [_, _], _ => rfl) (fun vs H Q E h => ?_) (fun cdv A outer s H vs Q E hr h => ?_)
  · obtain ⟨a, v, rfl, _⟩ := h
    rfl
  · exact ⟨_, pss_cons (ps_expr (pe_cinit T.ba_CueError rfl T.g_CueError (pa_cons (pv 0) (pa_cons pe_str pa_nil)))) (pss_one (ps_ost (pv 0) (pv 1))), xi_reading rfl vs H Q E h⟩
theorem mx_InvalidName {X : Cx} (T : Tx X.K X.mg X.base) (hr : Room 2 X.A) : MkX X "InvalidName" "value" := mk_X T.xc_InvalidName T.g_InvalidName (ok_InvalidName_init_ T) hr
theorem ok_InvalidUnit_init_ (T : Tx K mg base) : Ok P w K mg base 1 (He.ma K (He.ga K "InvalidUnit") "__init__") ["self", "value"] (spXi K (He.ga K "InvalidUnit") "value") := by
  refine mk_ok (N := ["self", "value"]) T.f_InvalidUnit_init_ ⟨rfl, rfl, rfl, by decide +kernel, rfl, by decide +kernel, by decide +kernel⟩ (fun _ _ _ _ _ _ us hl => match us, hl with | [_, _], _ => rfl) (fun vs H Q E h => ?_) (fun cdv A outer s H vs Q E hr h => ?_)
  · obtain ⟨a, v, rfl, _⟩ := h
    rfl
  · exact ⟨_, pss_cons (ps_expr (pe_cinit T.ba_CueError rfl T.g_CueError (pa_cons (pv 0) (pa_cons pe_str pa_nil)))) (pss_one (ps_ost (pv 0) (pv 1))), xi_reading rfl vs H Q E h⟩
theorem mx_InvalidUnit {X : Cx} (T : Tx X.K X.mg X.base) (hr : Room 2 X.A) : MkX X "InvalidUnit" "value" := mk_X T.xc_InvalidUnit T.g_InvalidUnit (ok_InvalidUnit_init_ T) hr
theorem ok_InvalidCue_init_ (T : Tx K mg base) : Ok P w K mg base 1 (He.ma K (He.ga K "InvalidCue") "__init__") ["self", "value"] (spXi K (He.ga K "InvalidCue") "value") := by
  refine mk_ok (N := ["self", "value"]) T.f_InvalidCue_init_ ⟨rfl, rfl, rfl, by decide +kernel, rfl, by decide +kernel, by decide +kernel⟩ (fun _ _ _ _ _ _ us hl => match us, hl with | [_, _], _ => rfl) (fun vs H Q E h => ?_) (fun cdv A outer s H vs Q E hr h => ?_)
  · obtain ⟨a, v, rfl, _⟩ := h
    rfl
  · exact ⟨_, pss_cons (ps_expr (pe_cinit T.ba_CueError rfl T.g_CueError (pa_cons (pv 0) (pa_cons pe_str pa_nil)))) (pss_one (ps_ost (pv 0) (pv 1))), xi_reading rfl vs H Q E h⟩
theorem mx_InvalidCue {X : Cx} (T : Tx X.K X.mg X.base) (hr : Room 2 X.A) : MkX X "InvalidCue" "value" := mk_X T.xc_InvalidCue T.g_InvalidCue (ok_InvalidCue_init_ T) hr
theorem ok_Duplicate_init_ (T : Tx K mg base) : Ok P w K mg base 1 (He.ma K (He.ga K "Duplicate") "__init__") ["self", "label"] (spXi K (He.ga K "Duplicate") "label") := by
  refine mk_ok (N := ["self", "label"]) T.f_Duplicate_init_ ⟨rfl, rfl, rfl, by decide +kernel, rfl, by decide +kernel, by decide +kernel⟩ (fun _ _ _ _ _ _ us hl => match us, hl with | [_, _], _ => rfl) (fun vs H Q E h => ?_) (fun cdv A outer s H vs Q E hr h => ?_)
  · obtain ⟨a, v, rfl, _⟩ := h
    rfl
  · exact ⟨_, pss_cons (ps_expr (pe_cinit T.ba_CueError rfl T.g_CueError (pa_cons (pv 0) (pa_cons pe_str pa_nil)))) (pss_one (ps_ost (pv 0) (pv 1))), xi_reading rfl vs H Q E h⟩
theorem mx_Duplicate {X : Cx} (T : Tx X.K X.mg X.base) (hr : Room 2 X.A) : MkX X "Duplicate" "label" := mk_X T.xc_Duplicate T.g_Duplicate (ok_Duplicate_init_ T) hr
theorem ok_InvalidSheet_init_ (T : Tx K mg base) : Ok P w K mg base 1 (He.ma K (He.ga K "InvalidSheet") "__init__") ["self", "value"] (spXi K (He.ga K "InvalidSheet") "value") := by
  refine mk_ok (N := ["self", "value"]) T.f_InvalidSheet_init_ ⟨rfl, rfl, rfl, by decide +kernel, rfl, by decide +kernel, by decide +kernel⟩ (fun _ _ _ _ _ _ us hl => match us, hl with | [_, _], _ => rfl) (fun vs H Q E h => ?_) (fun cdv A outer s H vs Q E hr h => ?_)
  · obtain ⟨a, v, rfl, _⟩ := h
    rfl
  · exact ⟨_, pss_cons (ps_expr (pe_cinit T.ba_CueError rfl T.g_CueError (pa_cons (pv 0) (pa_cons pe_str pa_nil)))) (pss_one (ps_ost (pv 0) (pv 1))), xi_reading rfl vs H Q E h⟩
theorem mx_InvalidSheet {X : Cx} (T : Tx X.K X.mg X.base) (hr : Room 2 X.A) : MkX X "InvalidSheet" "value" := mk_X T.xc_InvalidSheet T.g_InvalidSheet (ok_InvalidSheet_init_ T) hr
theorem ok_UnknownCue_init_ (T : Tx K mg base) : Ok P w K mg base 1 (He.ma K (He.ga K "UnknownCue") "__init__") ["self", "label"] (spXiG K "KeyError" (He.ga K "UnknownCue") "label") := by
  refine mk_ok (N := ["self", "label"]) T.f_UnknownCue_init_ ⟨rfl, rfl, rfl, by decide +kernel, rfl, by decide +kernel, by decide +kernel⟩ (fun _ _ _ _ _ _ us hl => match us, hl with | [_, _], _ => rfl) (fun vs H Q E h => ?_) (fun cdv A outer s H vs Q E hr h => ?_)
  · obtain ⟨a, v, rfl, _⟩ := h
    rfl
  · exact ⟨_, pss_cons (ps_expr (peG_cinit T.bg_MissingError rfl T.g_MissingError (pa_cons (pv 0) (pa_cons pe_str pa_nil)))) (pss_one (psG_ost (pv 0) (pv 1))), xiG_reading rfl vs H Q E h⟩
theorem mx_UnknownCue {X : Cx} (T : Tx X.K X.mg X.base) (hr : Room 2 X.A) : MkXG X "KeyError" "UnknownCue" "label" := mk_XG T.xg_UnknownCue T.g_UnknownCue (ok_UnknownCue_init_ T) hr
theorem ok_TooMany_init_ (T : Tx K mg base) : Ok P w K mg base 1 (He.ma K (He.ga K "TooMany") "__init__") ["self", "most"] (spXiG K "LookupError" (He.ga K "TooMany") "most") := by
  refine mk_ok (N := ["self", "most"]) T.f_TooMany_init_ ⟨rfl, rfl, rfl, by decide +kernel, rfl, by decide +kernel, by decide +kernel⟩ (fun _ _ _ _ _ _ us hl => match us, hl with | [_, _], _ => rfl) (fun vs H Q E h => ?_) (fun cdv A outer s H vs Q E hr h => ?_)
  · obtain ⟨a, v, rfl, _⟩ := h
    rfl
  · exact ⟨_, pss_cons (ps_expr (peG_cinit T.bg_StateError rfl T.g_StateError (pa_cons (pv 0) (pa_cons pe_str pa_nil)))) (pss_one (psG_ost (pv 0) (pv 1))), xiG_reading rfl vs H Q E h⟩
theorem mx_TooMany {X : Cx} (T : Tx X.K X.mg X.base) (hr : Room 2 X.A) : MkXG X "LookupError" "TooMany" "most" := mk_XG T.xg_TooMany T.g_TooMany (ok_TooMany_init_ T) hr
/-- what is raised: a new exception of the class x whose field f is v -/
def Rf (K : PySem.W.Frag) (x f : Str) (v : V) (H : Hp) (E : XK) : Prop := ∀ H' d, Same H H' → H d = none → H' d = some (.xd [(f, v)]) → E (.ref (He.ga K x)) (some d) H'
theorem rf_of {K : PySem.W.Frag} {x f : Str} {v : V} {H : Hp} {E : XK} (h : Rf K x f v H E) : ∀ d, H d = none → E (.ref (He.ga K x)) (some d) (upd H d (.xd [(f, v)])) := fun d hd =>
  h _ d (fun b o e => by rw [upd_ne (ne_of_none e hd)]; exact e) hd upd_same
theorem Rf.up {K : PySem.W.Frag} {x f : Str} {v : V} {H H1 : Hp} {E : XK} (h : Rf K x f v H E) (s : Same H H1) : Rf K x f v H1 E := fun H' d s2 hd hx => h H' d (s.trans s2) (by
  cases q : H d with
  | none => rfl
  | some o => rw [s _ _ q] at hd; cases hd) hx
/-! ### is_whole -/
def spWhole (K : PySem.W.Frag) : Sp := fun vs H Q _ => ∃ v, vs = [v] ∧ AnyV K H v ∧ Q (.bl (wholeV v)) H
theorem sc_is_whole : FnScope ["value"] ["value"] (defScope s_is_whole) := ⟨rfl, rfl, rfl, by decide +kernel, rfl, by decide +kernel, by decide +kernel⟩
theorem ok_is_whole (T : Tx K mg base) : Ok P w K mg base 1 (d_is_whole.loc K) ["value"] (spWhole K) := by
  refine mk_ok (k := 0) T.f_is_whole sc_is_whole (fun _ _ _ _ _ _ us hl => match us, hl with | [_], _ => rfl) (fun vs H Q E h => ?_) (fun cdv A outer s H vs Q E hr h => ?_)
  · obtain ⟨v, rfl, _⟩ := h
    rfl
  · obtain ⟨v, rfl, hv, k⟩ := h
    refine ⟨_, (pss_one (ps_ret (pe_and (pe_callB call_isi (by rfl) T.b_isinstance (by decide +kernel) (pa_cons (pv 0) (pa_cons (pe_bltn (v := .ty "int") rfl T.b_int (by decide +kernel) rfl) pa_nil))) (pe_one (pe_not (pe_callB call_isi (by rfl) T.b_isinstance (by decide +kernel) (pa_cons (pv 0) (pa_cons (pe_bltn (v := .ty "bool") rfl T.b_bool (by decide +kernel) rfl) pa_nil)))))))), ?_⟩
    obtain ⟨t1, y1, q1⟩ := isi_int T hv
    obtain ⟨t2, y2, q2⟩ := isi_bool T hv
    refine ⟨_, rfl, _, _, _, _, _, rfl, .ty _, y1, q1, _, rfl, ?_⟩
    cases hv with
    | bl b => exact ⟨_, rfl, _, _, _, _, _, rfl, .ty _, y2, q2, _, rfl, k⟩
    | int i => exact ⟨_, rfl, _, _, _, _, _, rfl, .ty _, y2, q2, _, rfl, k⟩
    | _ => exact k
/-! ### common_factor -/
def spGcd : Sp := fun vs H Q _ => ∃ a b : Int, vs = [.int a, .int b] ∧ 0 ≤ a ∧ 0 ≤ b ∧ Q (.int (Int.gcd a b : Nat)) H
theorem gcd_turn {a b : Int} (ha : 0 ≤ a) (hb : 0 < b) : Int.gcd b (a % b) = Int.gcd a b := by
  obtain ⟨n, rfl⟩ := Int.eq_ofNat_of_zero_le ha
  obtain ⟨m, rfl⟩ := Int.eq_ofNat_of_zero_le (Int.le_of_lt hb)
  have e : (n : Int) % (m : Int) = ((n % m : Nat) : Int) := by simp
  show Nat.gcd (Int.natAbs (m : Int)) (Int.natAbs ((n : Int) % (m : Int))) = Nat.gcd (Int.natAbs (n : Int)) (Int.natAbs (m : Int))
  rw [e, Int.natAbs_natCast, Int.natAbs_natCast, Int.natAbs_natCast, Nat.gcd_comm m, ← Nat.gcd_rec, Nat.gcd_comm]
theorem sc_common_factor : FnScope ["one", "other"] ["one", "other"] (defScope s_common_factor) := ⟨rfl, rfl, rfl, by decide +kernel, rfl, by decide +kernel, by decide +kernel⟩
theorem ok_common_factor (T : Tx K mg base) : Ok P w K mg base 1 (d_common_factor.loc K) ["one", "other"] spGcd := by
  refine mk_ok (k := 0) T.f_common_factor sc_common_factor (fun _ _ _ _ _ _ us hl => match us, hl with | [_, _], _ => rfl) (fun vs H Q E h => ?_) (fun cdv A outer s H vs Q E hr h => ?_)
  · obtain ⟨a, b, rfl, _⟩ := h
    rfl
  · obtain ⟨a, b, rfl, ha, hb, k⟩ := h
    refine ⟨_, (pss_cons (ps_while (passes_of rfl) (pt_cmpR op_gt (pv 1) pe_int (nomark _)) (pss_one (ps_par (by rfl) sc_common_factor.nd (i := 0) (j := 1) rfl rfl (by decide) rfl rfl (pa_cons (pv 1) (pa_cons (pe_op op_mod (pv 0) (pv 1)) pa_nil)) (by rfl))))
      (pss_one (ps_ret (pv 0)))), ?_⟩
    refine ⟨fun m σ H' => ∃ a' b' : Int, σ = [some (.int a'), some (.int b')] ∧ H' = H ∧ 0 ≤ a' ∧ 0 ≤ b' ∧ Int.gcd a' b' = Int.gcd a b ∧ m = b'.toNat, ⟨_, a, b, rfl, rfl, ha, hb, rfl, rfl⟩, ?_⟩
    rintro m σ H' ⟨a', b', rfl, rfl, ha', hb', hg, rfl⟩
    refine ⟨_, rfl, _, _, rfl, rfl, _, rfl, ?_⟩
    refine ite2 (fun h1 => ?_) (fun h1 => ?_)
    · have h1' : 0 < b' := of_decide_eq_true h1
      refine ⟨fun σ2 H2 => ∃ a2 b2 : Int, σ2 = [some (.int a2), some (.int b2)] ∧ H2 = H' ∧ 0 ≤ a2 ∧ 0 ≤ b2 ∧ Int.gcd a2 b2 = Int.gcd a b ∧ b2 < b', ?_, ?_⟩
      · rintro σ2 H2 ⟨a2, b2, rfl, rfl, h2, h3, h4, h5⟩
        exact ⟨b2.toNat, by omega, a2, b2, rfl, rfl, h2, h3, h4, rfl⟩
      · refine ⟨_, rfl, _, rfl, _, rfl, _, _, rfl, rfl, h1', _, _, rfl, ?_⟩
        exact ⟨b', a' % b', rfl, rfl, hb', Int.emod_nonneg _ (by omega), by rw [gcd_turn ha' h1', hg], Int.emod_lt_of_pos _ h1'⟩
    · have h0 : b' = 0 := by
        have := of_decide_eq_false (by simpa using h1 : decide (0 < b') = false)
        omega
      subst h0
      refine ⟨_, rfl, ?_⟩
      have e : (Int.gcd a b : Int) = a' := by rw [← hg, Int.gcd_zero_right]; omega
      rw [e] at k
      exact k
end
end K34

set_option maxHeartbeats 4000000
namespace K34
open PySem PySem.Spec PyProof.Rows L2 AT
/-! ### lowest terms, as the rationals have them -/
def fac (t b : Int) : Int := if b < 0 then -(Int.gcd t b : Nat) else (Int.gcd t b : Nat)
theorem gcd_pos {t b : Int} (h : b ≠ 0) : 0 < Int.gcd t b := Int.gcd_pos_of_ne_zero_right t h
theorem gcd_le {t b : Int} (h : b ≠ 0) : Int.gcd t b ≤ b.natAbs := Nat.le_of_dvd (Int.natAbs_pos.mpr h) (Int.gcd_dvd_natAbs_right t b)
theorem low_num {t b : Int} (h : b ≠ 0) : t.fdiv (fac t b) = (Rat.divInt t b).num := by
  rw [Rat.num_divInt, Int.gcd_comm b t]
  have hg := gcd_pos (t := t) h
  obtain ⟨c, hc⟩ := Int.gcd_dvd_left t b
  unfold fac
  generalize Int.gcd t b = g at hg hc ⊢
  subst hc
  have g0 : (g : Int) ≠ 0 := by omega
  split
  · rename_i hb
    rw [Int.sign_eq_neg_one_of_neg hb, show ((g : Int) * c) = (-(g : Int)) * (-c) by rw [Int.neg_mul_neg], Int.mul_fdiv_cancel_left _ (by omega), show (-1 * (-(g : Int) * -c)) = (g : Int) * (-c) by rw [Int.neg_mul_neg, Int.mul_neg, Int.neg_one_mul], Int.mul_ediv_cancel_left _ g0]
  · have hb : 0 < b := by omega
    rw [Int.sign_eq_one_of_pos hb, Int.one_mul, Int.mul_fdiv_cancel_left _ g0, Int.mul_ediv_cancel_left _ g0]
theorem low_den {t b : Int} (h : b ≠ 0) : b.fdiv (fac t b) = ((Rat.divInt t b).den : Int) := by
  rw [Rat.den_divInt, if_neg h, Int.gcd_comm b t]
  have hg := gcd_pos (t := t) h
  obtain ⟨c, hc⟩ := Int.gcd_dvd_right t b
  unfold fac
  generalize Int.gcd t b = g at hg hc ⊢
  subst hc
  have g0 : (g : Int) ≠ 0 := by omega
  have e : ((g : Int) * c).natAbs / g = c.natAbs := by rw [Int.natAbs_mul, Int.natAbs_natCast, Nat.mul_div_cancel_left _ hg]
  rw [e]
  split
  · rename_i hb
    rw [show ((g : Int) * c) = (-(g : Int)) * (-c) by rw [Int.neg_mul_neg], Int.mul_fdiv_cancel_left _ (by omega)]
    have : c < 0 := by
      rcases Int.lt_or_le c 0 with z | z
      · exact z
      · have := Int.mul_nonneg (show (0 : Int) ≤ g by omega) z
        omega
    omega
  · rw [Int.mul_fdiv_cancel_left _ g0]
    have : 0 ≤ c := by
      rcases Int.lt_or_le c 0 with z | z
      · have := Int.mul_neg_of_pos_of_neg (show (0 : Int) < g by omega) z
        omega
      · exact z
    omega
theorem den_ne (q : Rat) : (q.den : Int) ≠ 0 := by have := q.den_nz; omega
theorem q_self (q : Rat) : Rat.divInt q.num q.den = q := Rat.num_divInt_den q
theorem q_add (x y : Rat) : Rat.divInt (x.num * y.den + y.num * x.den) (x.den * y.den) = x + y := by
  rw [← Rat.divInt_add_divInt _ _ (den_ne x) (den_ne y), q_self, q_self]
theorem q_neg (x : Rat) : Rat.divInt (-x.num) x.den = -x := by
  rw [← Rat.neg_divInt, q_self]
theorem q_sub (x y : Rat) : Rat.divInt (x.num * y.den - y.num * x.den) (x.den * y.den) = x - y := by
  have h := Rat.divInt_add_divInt x.num (-y.num) (den_ne x) (den_ne y)
  rw [q_self, q_neg] at h
  rw [Rat.sub_eq_add_neg, h, Int.neg_mul, Int.sub_eq_add_neg]
theorem q_mul (x y : Rat) : Rat.divInt (x.num * y.num) (x.den * y.den) = x * y := by
  rw [← Rat.divInt_mul_divInt, q_self, q_self]
theorem q_div (x y : Rat) : Rat.divInt (x.num * y.den) (x.den * y.num) = x / y := by
  rw [← Rat.divInt_mul_divInt, q_self, Rat.div_def, Rat.inv_def]
theorem q_int (i : Int) : Rat.divInt i 1 = (i : Rat) := by
  rw [Rat.divInt_eq_div]
  have : (1 : Rat)⁻¹ = 1 := by decide +kernel
  simp [Rat.div_def, this]
theorem num_ne {y : Rat} (h : y ≠ 0) : y.num ≠ 0 := fun z => h (Rat.num_eq_zero.mp z)
/-- small enough: k bits above and below -/
def Bits (k : Nat) (q : Rat) : Prop := q.num.natAbs < 2 ^ k ∧ q.den < 2 ^ k
theorem Bits.mono {k j : Nat} {q : Rat} (h : Bits k q) (l : k ≤ j) : Bits j q := ⟨Nat.lt_of_lt_of_le h.1 (Nat.pow_le_pow_right (by decide) l), Nat.lt_of_lt_of_le h.2 (Nat.pow_le_pow_right (by decide) l)⟩
theorem bits_of {k : Nat} {t b : Int} (hb : b ≠ 0) (h1 : t.natAbs < 2 ^ k) (h2 : b.natAbs < 2 ^ k) : Bits k (Rat.divInt t b) := by
  have g0 := gcd_pos (t := t) hb
  constructor
  · rw [Rat.num_divInt, Int.gcd_comm b t]
    obtain ⟨c, hc⟩ := Int.gcd_dvd_left t b
    generalize Int.gcd t b = g at g0 hc ⊢
    subst hc
    have e : b.sign * ((g : Int) * c) / g = b.sign * c := by
      rw [show b.sign * ((g : Int) * c) = (g : Int) * (b.sign * c) by rw [← Int.mul_assoc, Int.mul_comm b.sign, Int.mul_assoc], Int.mul_ediv_cancel_left _ (by omega)]
    rw [e]
    refine Nat.lt_of_le_of_lt ?_ h1
    rw [Int.natAbs_mul, Int.natAbs_mul, Int.natAbs_natCast]
    have : b.sign.natAbs ≤ 1 := by
      rw [Int.natAbs_sign]
      split <;> omega
    calc b.sign.natAbs * c.natAbs ≤ 1 * c.natAbs := Nat.mul_le_mul_right _ this
      _ ≤ g * c.natAbs := Nat.mul_le_mul_right _ g0
  · rw [Rat.den_divInt, if_neg hb]
    exact Nat.lt_of_le_of_lt (Nat.div_le_self _ _) h2
theorem mul_bits {i j : Int} {a b : Nat} (ha : i.natAbs < 2 ^ a) (hb : j.natAbs < 2 ^ b) : (i * j).natAbs < 2 ^ (a + b) := by
  rw [Int.natAbs_mul, Nat.pow_add]
  exact Nat.mul_lt_mul'' ha hb
theorem den_bits {k : Nat} {q : Rat} (h : Bits k q) : ((q.den : Int)).natAbs < 2 ^ k := by
  rw [Int.natAbs_natCast]
  exact h.2
theorem Bits.add {a b : Nat} {x y : Rat} (h : Bits a x) (g : Bits b y) : Bits (a + b + 1) (x + y) := by
  rw [← q_add]
  have h1 := mul_bits h.1 (den_bits g)
  have h2 := mul_bits g.1 (den_bits h)
  have h3 := mul_bits (den_bits h) (den_bits g)
  rw [Nat.add_comm b a] at h2
  refine bits_of (Int.mul_ne_zero (den_ne x) (den_ne y)) ?_ ?_
  · rw [Nat.pow_succ]
    omega
  · rw [Nat.pow_succ]
    omega
theorem Bits.sub {a b : Nat} {x y : Rat} (h : Bits a x) (g : Bits b y) : Bits (a + b + 1) (x - y) := by
  rw [← q_sub]
  have h1 := mul_bits h.1 (den_bits g)
  have h2 := mul_bits g.1 (den_bits h)
  have h3 := mul_bits (den_bits h) (den_bits g)
  rw [Nat.add_comm b a] at h2
  refine bits_of (Int.mul_ne_zero (den_ne x) (den_ne y)) ?_ ?_
  · rw [Nat.pow_succ]
    omega
  · rw [Nat.pow_succ]
    omega
theorem Bits.mul {a b : Nat} {x y : Rat} (h : Bits a x) (g : Bits b y) : Bits (a + b) (x * y) := by
  rw [← q_mul]
  exact bits_of (Int.mul_ne_zero (den_ne x) (den_ne y)) (mul_bits h.1 g.1) (mul_bits (den_bits h) (den_bits g))
theorem Bits.div {a b : Nat} {x y : Rat} (h : Bits a x) (g : Bits b y) (hy : y ≠ 0) : Bits (a + b) (x / y) := by
  rw [← q_div]
  exact bits_of (Int.mul_ne_zero (den_ne x) (num_ne hy)) (mul_bits h.1 (den_bits g)) (mul_bits (den_bits h) g.1)
section
variable {P : Program} {w : World} {K : PySem.W.Frag} {mg : Str → Option Value} {base : Heap}
theorem IsQ.up {H H' : Hp} {p : Addr} {q : Rat} (h : IsQ K H p q) (s : Same H H') : IsQ K H' p q := h.imp fun _ e => s _ _ e
theorem IsQ.inj {H : Hp} {p : Addr} {x y : Rat} (h : IsQ K H p x) (g : IsQ K H p y) : x = y := by
  obtain ⟨d, e⟩ := h
  obtain ⟨d', e'⟩ := g
  rw [e] at e'
  simp only [Option.some.injEq, HO.ins.injEq, amtQ, amtF, List.cons.injEq, Prod.mk.injEq, V.int.injEq, and_true, true_and] at e'
  exact Rat.ext e'.2.1 (by have := e'.2.2; omega)
theorem abs_gcd (t b : Int) : Int.gcd (if t < 0 then -t else t) (if b < 0 then -b else b) = Int.gcd t b := by
  have e : ∀ x : Int, (if x < 0 then -x else x).natAbs = x.natAbs := fun x => by split <;> simp
  show Nat.gcd _ _ = Nat.gcd _ _
  rw [e, e]
def badB : V → Bool
  | .int d => decide (d = 0)
  | _ => true
/-- Amount.__init__ -/
def spAmt (K : PySem.W.Frag) : Sp := fun vs H Q E => ∃ p dx t b, vs = [.ref p, t, b] ∧ H p = some (.ins (cA K) dx []) ∧ AnyV K H t ∧ AnyV K H b ∧
  ((∃ n d : Int, t = .int n ∧ b = .int d ∧ d ≠ 0 ∧ d.natAbs < 2 ^ 8000 ∧ Q .non (upd H p (.ins (cA K) dx (amtQ (Rat.divInt n d))))) ∨
    (wholeV t = false ∧ Rf K "InvalidInteger" "value" t H E) ∨ (wholeV t = true ∧ badB b = true ∧ Rf K "InvalidInteger" "value" b H E))
theorem log_lt {n k : Nat} (hk : 0 < k) (h : n < 2 ^ k) : n.log2 < k := PySem.Flt.log2_lt_of hk h
theorem sc_Amount_init_ : FnScope ["self", "top", "bottom", "factor"] ["self", "top", "bottom"] (defScope s_Amount_init_) := ⟨rfl, rfl, rfl, by decide +kernel, rfl, by decide +kernel, by decide +kernel⟩
theorem both_Amount (T : Tx K mg base) : Ok P w K mg base 3 (He.ma K (He.ga K "Amount") "__init__") ["self", "top", "bottom"] (spAmt K) ∧ OkD P w K mg base 3 (He.ma K (He.ga K "Amount") "__init__") ["self", "top", "bottom"] [.int 1] (spAmt K) := by
  refine mk_okD1 (k := 2) (n := 2) T.f_Amount_init_ sc_Amount_init_ rfl (fun _ _ _ _ _ _ _ us u hl => match us, hl with | [_, _], _ => ⟨_, rfl, rfl⟩) (fun _ _ _ _ _ _ _ us u hl => match us, hl with | [_, _, _], _ => ⟨_, rfl, rfl⟩) (fun vs H Q E h => ?_) (fun cdv A outer s H vs Q E hr h => ?_)
  · obtain ⟨p, dx, t, b, rfl, _⟩ := h
    rfl
  · obtain ⟨p, dx, t, b, rfl, hp, ht, hb, hc⟩ := h
    refine ⟨_, (pss_cons (ps_if (pt_not (pt_val (ok_call (ok_is_whole T) (hr.mono (by decide)) rfl T.g_is_whole passL (pa_cons (pv 1) pa_nil)))) (pss_one (ps_rs rfl (mx_InvalidInteger T (hr.mono (by decide))) (takes_of rfl rfl rfl rfl) rfl (pv 1))) pss_nil)
      (pss_cons (ps_if (PW.pt (pw_or (pt_not (pt_val (ok_call (ok_is_whole T) (hr.mono (by decide)) rfl T.g_is_whole passL (pa_cons (pv 2) pa_nil)))) (pw_or1 (pt_cmpR op_eq (pv 2) pe_int (nomark _))))) (pss_one (ps_rs rfl (mx_InvalidInteger T (hr.mono (by decide))) (takes_of rfl rfl rfl rfl) rfl (pv 2))) pss_nil)
      (pss_cons (ps_set (i := 3) sc_Amount_init_.nd rfl (Or.inl rfl) (ok_call (ok_common_factor T) (hr.mono (by decide)) rfl T.g_common_factor passL (pa_cons (pe_callB call_abs (by rfl) T.b_abs (by decide +kernel) (pa_cons (pv 1) pa_nil)) (pa_cons (pe_callB call_abs (by rfl) T.b_abs (by decide +kernel) (pa_cons (pv 2) pa_nil)) pa_nil))))
      (pss_cons (ps_if (pt_cmpR op_lt (pv 2) pe_int (nomark _)) (pss_one (ps_set (i := 3) sc_Amount_init_.nd rfl (Or.inl rfl) (pe_un un_neg (pv 3)))) pss_nil)
      (pss_cons (ps_fld (pv 0) (pe_op op_fdivZ (pv 1) (pv 3)) rfl)
      (pss_one (ps_fld (pv 0) (pe_op op_fdivZ (pv 2) (pv 3)) rfl))))))), ?_⟩
    refine ⟨_, rfl, t, rfl, ht, _, rfl, ?_⟩
    rcases hc with ⟨n, d, rfl, rfl, h0, hbig, k3⟩ | ⟨e, k1⟩ | ⟨e, eb, k2⟩
    · refine iteF ⟨_, rfl, .int d, rfl, hb, _, rfl, iteF ⟨_, rfl, rfl, _, rfl, ?_⟩⟩
      rw [decide_eq_false (fun q => h0 (V.int.inj q))]
      refine iteF ⟨_, rfl, n, rfl, _, rfl, d, rfl, _, _, rfl, (by split <;> omega), (by split <;> omega), ?_⟩
      rw [abs_gcd]
      have key : ∀ f : Int, f = fac n d → f ≠ 0 → f.natAbs.log2 < 9000 → ∀ σ, σ = ([some (.ref p), some (.int n), some (.int d), some (.int f)] : L2.St) →
          tSeq (sFld K (tVar 0) (tOp (rI CDivZ fun i j => .int (i.fdiv j)) (tVar 1) (tVar 3)) "own_top") (sFld K (tVar 0) (tOp (rI CDivZ fun i j => .int (i.fdiv j)) (tVar 2) (tVar 3)) "own_bottom") { nx := fun _ H' => Q .non H', rt := Q } σ H := by
        rintro f rfl hf hl σ rfl
        refine ⟨_, rfl, _, rfl, _, _, rfl, rfl, ⟨hf, hl⟩, _, rfl, p, _, dx, _, rfl, hp, T.cls_Amount, T.no_Amount_own_top, (by decide), ?_⟩
        refine ⟨_, rfl, _, rfl, _, _, rfl, rfl, ⟨hf, hl⟩, _, rfl, p, _, dx, _, rfl, upd_same, T.cls_Amount, T.no_Amount_own_bottom, (by show 1 < 1000; decide), ?_⟩
        rw [upd_upd]
        show Q .non (upd H p (.ins (cA K) dx (amtF (n.fdiv (fac n d)) (d.fdiv (fac n d)))))
        rw [low_num h0, low_den h0]
        exact k3
      have hg := gcd_pos (t := n) h0
      have hle := gcd_le (t := n) h0
      have hlog : (Int.gcd n d).log2 < 9000 := log_lt (by decide) (Nat.lt_of_le_of_lt hle (Nat.lt_trans hbig (Nat.pow_lt_pow_right (by decide) (by decide))))
      refine ⟨_, rfl, _, _, rfl, rfl, _, rfl, ?_⟩
      refine ite2 (fun h1 => ?_) (fun h1 => ?_)
      · have h1' : d < 0 := of_decide_eq_true h1
        refine ⟨_, rfl, _, rfl, ?_⟩
        exact key (-(Int.gcd n d : Nat)) (by unfold fac; rw [if_pos h1']) (by omega) (by rw [Int.natAbs_neg, Int.natAbs_natCast]; exact hlog) _ rfl
      · have h1' : ¬ d < 0 := of_decide_eq_false (by simpa using h1)
        exact key (Int.gcd n d : Nat) (by unfold fac; rw [if_neg h1']) (by omega) (by rw [Int.natAbs_natCast]; exact hlog) _ rfl
    · rw [e]
      exact iteT ⟨_, rfl, mk_at T.xc_InvalidInteger.oex T.xc_InvalidInteger.no (rf_of k1)⟩
    · rw [e]
      refine iteF ⟨_, rfl, b, rfl, hb, _, rfl, ?_⟩
      cases hb with
      | int d =>
        have h0 : d = 0 := of_decide_eq_true eb
        subst h0
        refine iteF ⟨_, rfl, rfl, _, rfl, ?_⟩
        rw [decide_eq_true rfl]
        exact iteT ⟨_, rfl, mk_at T.xc_InvalidInteger.oex T.xc_InvalidInteger.no (rf_of k2)⟩
      | _ => exact iteT (iteT ⟨_, rfl, mk_at T.xc_InvalidInteger.oex T.xc_InvalidInteger.no (rf_of k2)⟩)
theorem ok_Amount_init_ (T : Tx K mg base) : Ok P w K mg base 3 (He.ma K (He.ga K "Amount") "__init__") ["self", "top", "bottom"] (spAmt K) := (both_Amount T).1
theorem okd_Amount_init_ (T : Tx K mg base) : OkD P w K mg base 3 (He.ma K (He.ga K "Amount") "__init__") ["self", "top", "bottom"] [.int 1] (spAmt K) := (both_Amount T).2
theorem made_same {H : Hp} {x dx : Addr} {o1 o2 : HO} (hx : H x = none) (hdx : H dx = none) : Same H (upd (upd (upd H dx (.own x)) x o1) x o2) := AT.Same.new (AT.Same.new (AT.Same.up hdx) hx) hx
end
end K34

set_option maxHeartbeats 4000000
namespace K34
open PySem PySem.Spec PyProof.Rows L2 AT
/-! ### amounts: what a value stands for -/
inductive Qv (K : PySem.W.Frag) (H : Hp) : V → Rat → Prop where
  | obj {a : Addr} {q : Rat} (h : IsQ K H a q) : Qv K H (.ref a) q
  | int (i : Int) : Qv K H (.int i) (i : Rat)
theorem Qv.up {K : PySem.W.Frag} {H H' : Hp} {v : V} {q : Rat} (h : Qv K H v q) (s : Same H H') : Qv K H' v q := by
  cases h with
  | obj h => exact .obj (h.up s)
  | int i => exact .int i
theorem Qv.any {K : PySem.W.Frag} {H : Hp} {v : V} {q : Rat} (h : Qv K H v q) : AnyV K H v := by
  cases h with
  | obj h => exact .amt h
  | int i => exact .int i
def isA (K : PySem.W.Frag) (H : Hp) (v : V) : Prop := ∃ q, Qv K H v q
section
variable {P : Program} {w : World} {K : PySem.W.Frag} {mg : Str → Option Value} {base : Heap}
theorem isi_amt (T : Tx K mg base) {H : Hp} {v : V} (h : AnyV K H v) : ∃ t b, TyX K H v t ∧ PySem.W.kitOne K t (.ref (cA K)) = some b ∧ ((b = true ∧ ∃ a q, v = .ref a ∧ IsQ K H a q) ∨ (b = false ∧ ((∃ i, v = .int i) ∨ (wholeV v = false ∧ ¬ isA K H v)))) := by
  have no : ∀ {a : Addr} {o : HO}, H a = some o → (∀ d fs, o ≠ .ins (cA K) d fs) → ¬ isA K H (.ref a) := by
    rintro a o e hn ⟨q, hq⟩
    cases hq with
    | obj h =>
      obtain ⟨d, z⟩ := h
      rw [e] at z
      cases z
      exact hn _ _ rfl
  cases h with
  | non => exact ⟨_, _, .base .non, T.k_NoneType_Amount, .inr ⟨rfl, .inr ⟨rfl, fun ⟨_, q⟩ => nomatch q⟩⟩⟩
  | bl b => exact ⟨_, _, .base (.bl b), T.k_bool_Amount, .inr ⟨rfl, .inr ⟨rfl, fun ⟨_, q⟩ => nomatch q⟩⟩⟩
  | int i => exact ⟨_, _, .base (.int i), T.k_int_Amount, .inr ⟨rfl, .inl ⟨i, rfl⟩⟩⟩
  | str x => exact ⟨_, _, .base (.str x), T.k_str_Amount, .inr ⟨rfl, .inr ⟨rfl, fun ⟨_, q⟩ => nomatch q⟩⟩⟩
  | lst e => exact ⟨_, _, .base (.lst e), T.k_list_Amount, .inr ⟨rfl, .inr ⟨rfl, no e fun _ _ z => nomatch z⟩⟩⟩
  | tup e => exact ⟨_, _, .base (.tup e), T.k_tuple_Amount, .inr ⟨rfl, .inr ⟨rfl, no e fun _ _ z => nomatch z⟩⟩⟩
  | dct e => exact ⟨_, _, .base (.dK e), T.k_dict_Amount, .inr ⟨rfl, .inr ⟨rfl, no e fun _ _ z => nomatch z⟩⟩⟩
  | oth o e => exact ⟨_, _, o.ty e, o.amt, .inr ⟨rfl, .inr ⟨rfl, no e fun _ _ z => o.ne (by cases z; rfl)⟩⟩⟩
  | amt e =>
    obtain ⟨dx, e1⟩ := id e
    exact ⟨_, _, T.ins_Amount e1, T.k_Amount_Amount, .inl ⟨rfl, _, _, rfl, e⟩⟩
def spTop (K : PySem.W.Frag) : Sp := fun vs H Q _ => ∃ a q, vs = [.ref a] ∧ IsQ K H a q ∧ Q (.int q.num) H
def spBot (K : PySem.W.Frag) : Sp := fun vs H Q _ => ∃ a q, vs = [.ref a] ∧ IsQ K H a q ∧ Q (.int q.den) H
theorem sc_Amount_top : FnScope ["self"] ["self"] (defScope s_Amount_top) := ⟨rfl, rfl, rfl, by decide +kernel, rfl, by decide +kernel, by decide +kernel⟩
theorem ok_Amount_top (T : Tx K mg base) : Ok P w K mg base 1 (d_Amount_top.loc K) ["self"] (spTop K) := by
  refine mk_ok (k := 0) T.f_Amount_top sc_Amount_top (fun _ _ _ _ _ _ us hl => match us, hl with | [_], _ => rfl) (fun vs H Q E h => ?_) (fun cdv A outer s H vs Q E hr h => ?_)
  · obtain ⟨a, q, rfl, _⟩ := h
    rfl
  · obtain ⟨a, q, rfl, ⟨dx, ha⟩, k⟩ := h
    refine ⟨_, (pss_one (ps_ret (pe_fld (pv 0) rfl))), ?_⟩
    exact ⟨_, rfl, a, _, dx, _, _, rfl, ha, T.cls_Amount, T.no_Amount_own_top, rfl, k⟩
theorem sc_Amount_bottom : FnScope ["self"] ["self"] (defScope s_Amount_bottom) := ⟨rfl, rfl, rfl, by decide +kernel, rfl, by decide +kernel, by decide +kernel⟩
theorem ok_Amount_bottom (T : Tx K mg base) : Ok P w K mg base 1 (d_Amount_bottom.loc K) ["self"] (spBot K) := by
  refine mk_ok (k := 0) T.f_Amount_bottom sc_Amount_bottom (fun _ _ _ _ _ _ us hl => match us, hl with | [_], _ => rfl) (fun vs H Q E h => ?_) (fun cdv A outer s H vs Q E hr h => ?_)
  · obtain ⟨a, q, rfl, _⟩ := h
    rfl
  · obtain ⟨a, q, rfl, ⟨dx, ha⟩, k⟩ := h
    refine ⟨_, (pss_one (ps_ret (pe_fld (pv 0) rfl))), ?_⟩
    exact ⟨_, rfl, a, _, dx, _, _, rfl, ha, T.cls_Amount, T.no_Amount_own_bottom, rfl, k⟩
def spFrom (K : PySem.W.Frag) : Sp := fun vs H Q E => ∃ v, vs = [v] ∧ AnyV K H v ∧ ((∃ q, Qv K H v q ∧ ∀ p H', Same H H' → IsQ K H' p q → Q (.ref p) H') ∨ (wholeV v = false ∧ ¬ isA K H v ∧ Rf K "InvalidAmount" "value" v H E))
theorem sc_amount_from : FnScope ["value"] ["value"] (defScope s_amount_from) := ⟨rfl, rfl, rfl, by decide +kernel, rfl, by decide +kernel, by decide +kernel⟩
theorem ok_amount_from (T : Tx K mg base) : Ok P w K mg base 5 (d_amount_from.loc K) ["value"] (spFrom K) := by
  refine mk_ok (k := 4) T.f_amount_from sc_amount_from (fun _ _ _ _ _ _ us hl => match us, hl with | [_], _ => rfl) (fun vs H Q E h => ?_) (fun cdv A outer s H vs Q E hr h => ?_)
  · obtain ⟨v, rfl, _⟩ := h
    rfl
  · obtain ⟨v, rfl, hv, hc⟩ := h
    refine ⟨_, (pss_cons (ps_if (pt_val (pe_callB call_isi (by rfl) T.b_isinstance (by decide +kernel) (pa_cons (pv 0) (pa_cons (pe_gr T.g_Amount) pa_nil)))) (pss_one (ps_ret (pv 0))) pss_nil)
      (pss_cons (ps_if (pt_not (pt_val (ok_call (ok_is_whole T) (hr.mono (by decide)) rfl T.g_is_whole passL (pa_cons (pv 0) pa_nil)))) (pss_one (ps_rs rfl (mx_InvalidAmount T (hr.mono (by decide))) (takes_of rfl rfl rfl rfl) rfl (pv 0))) pss_nil)
      (pss_one (ps_ret (ok_makeD T.mkr_Amount (okd_Amount_init_ T) (hr.mono (by decide)) rfl T.g_Amount (passE rfl rfl rfl rfl) (pa_cons (pv 0) pa_nil)))))), ?_⟩
    obtain ⟨t, b, ty, kit, hb⟩ := isi_amt T hv
    refine ⟨_, rfl, _, _, _, _, _, rfl, .own _, ty, kit, _, rfl, ?_⟩
    rcases hc with ⟨q, hq, k⟩ | ⟨hw, hno, k⟩
    · rcases hb with ⟨rfl, a, q', rfl, ha⟩ | ⟨rfl, hi⟩
      · cases hq with
        | obj h => exact iteT ⟨_, rfl, k a H (Same.refl _) h⟩
      · refine iteF ⟨_, rfl, v, rfl, hv, _, rfl, ?_⟩
        rcases hi with ⟨i, rfl⟩ | ⟨_, hno⟩
        · refine iteF ⟨_, rfl, fun x dx hx hdx hne => ⟨x, dx, _, _, rfl, upd_same, .int _, .int _, .inl ⟨i, 1, rfl, rfl, by decide, by decide +kernel, rfl, ?_⟩⟩⟩
          cases hq
          refine k x _ (made_same hx hdx) ⟨dx, ?_⟩
          rw [upd_same, q_int]
          rfl
        · exact absurd ⟨q, hq⟩ hno
    · rcases hb with ⟨rfl, a, q', rfl, ha⟩ | ⟨rfl, hi⟩
      · exact absurd ⟨_, .obj ha⟩ hno
      · refine iteF ⟨_, rfl, v, rfl, hv, _, rfl, ?_⟩
        rw [hw]
        exact iteT ⟨_, rfl, mk_at T.xc_InvalidAmount.oex T.xc_InvalidAmount.no (rf_of k)⟩
def spIsA (K : PySem.W.Frag) : Sp := fun vs H Q _ => ∃ v, vs = [v] ∧ AnyV K H v ∧ (isA K H v → Q (.bl true) H) ∧ (¬ isA K H v → Q (.bl false) H)
theorem sc_is_amount : FnScope ["value"] ["value"] (defScope s_is_amount) := ⟨rfl, rfl, rfl, by decide +kernel, rfl, by decide +kernel, by decide +kernel⟩
theorem ok_is_amount (T : Tx K mg base) : Ok P w K mg base 2 (d_is_amount.loc K) ["value"] (spIsA K) := by
  refine mk_ok (k := 1) T.f_is_amount sc_is_amount (fun _ _ _ _ _ _ us hl => match us, hl with | [_], _ => rfl) (fun vs H Q E h => ?_) (fun cdv A outer s H vs Q E hr h => ?_)
  · obtain ⟨v, rfl, _⟩ := h
    rfl
  · obtain ⟨v, rfl, hv, k1, k2⟩ := h
    refine ⟨_, (pss_one (ps_ret (pe_or (pe_callB call_isi (by rfl) T.b_isinstance (by decide +kernel) (pa_cons (pv 0) (pa_cons (pe_gr T.g_Amount) pa_nil))) (pe_one (ok_call (ok_is_whole T) (hr.mono (by decide)) rfl T.g_is_whole passL (pa_cons (pv 0) pa_nil)))))), ?_⟩
    obtain ⟨t, b, ty, kit, hb⟩ := isi_amt T hv
    refine ⟨_, rfl, _, _, _, _, _, rfl, .own _, ty, kit, _, rfl, ?_⟩
    rcases hb with ⟨rfl, a, q', rfl, ha⟩ | ⟨rfl, hi⟩
    · exact iteT (k1 ⟨_, .obj ha⟩)
    · refine iteF ⟨_, rfl, v, rfl, hv, ?_⟩
      rcases hi with ⟨i, rfl⟩ | ⟨hw, hno⟩
      · exact k1 ⟨_, .int i⟩
      · rw [hw]
        exact k2 hno
end
end K34

set_option maxHeartbeats 4000000
namespace K34
open PySem PySem.Spec PyProof.Rows L2 AT
section
variable {P : Program} {w : World} {K : PySem.W.Frag} {mg : Str → Option Value} {base : Heap}
theorem mul_ok {i j : Int} (h : i.natAbs < 2 ^ 3000) (g : j.natAbs < 2 ^ 3000) : CMulW i j := wide_mul (a := 3000) (b := 3000) h g (by decide) (by decide) (by decide)
theorem bot_ok {i j : Int} (h : i.natAbs < 2 ^ 3000) (g : j.natAbs < 2 ^ 3000) : (i * j).natAbs < 2 ^ 8000 := Nat.lt_of_lt_of_le (mul_bits h g) (Nat.pow_le_pow_right (by decide) (by decide))
/-- a op b of two amounts: a new amount -/
def spBin (op : Rat → Rat → Rat) (K : PySem.W.Frag) : Sp := fun vs H Q E => ∃ a v x, vs = [.ref a, v] ∧ IsQ K H a x ∧ Bits 3000 x ∧ AnyV K H v ∧
  ((∃ y, Qv K H v y ∧ Bits 3000 y ∧ ∀ p H', Same H H' → H p = none → IsQ K H' p (op x y) → Q (.ref p) H') ∨ (wholeV v = false ∧ ¬ isA K H v ∧ Rf K "InvalidAmount" "value" v H E))
theorem none_of {H H' : Hp} {x : Addr} (s : Same H H') (h : H' x = none) : H x = none := by
  cases q : H x with
  | none => rfl
  | some o => rw [s _ _ q] at h; cases h
theorem sc_Amount_add_ : FnScope ["self", "other", "by"] ["self", "other"] (defScope s_Amount_add_) := ⟨rfl, rfl, rfl, by decide +kernel, rfl, by decide +kernel, by decide +kernel⟩
theorem ok_Amount_add_ (T : Tx K mg base) : Ok P w K mg base 6 (d_Amount_add_.loc K) ["self", "other"] (spBin (fun x y => x + y) K) := by
  refine mk_ok (k := 5) T.f_Amount_add_ sc_Amount_add_ (fun _ _ _ _ _ _ us hl => match us, hl with | [_, _], _ => rfl) (fun vs H Q E h => ?_) (fun cdv A outer s H vs Q E hr h => ?_)
  · obtain ⟨a, v, x, rfl, _⟩ := h
    rfl
  · obtain ⟨a, v, x, rfl, ha, bx, hv, hc⟩ := h
    refine ⟨_, (pss_cons (ps_set (i := 2) sc_Amount_add_.nd rfl (Or.inl rfl) (ok_call (ok_amount_from T) (hr.mono (by decide)) rfl T.g_amount_from (passE rfl rfl rfl rfl) (pa_cons (pv 1) pa_nil)))
      (pss_one (ps_ret (ok_make T.mkr_Amount (ok_Amount_init_ T) (hr.mono (by decide)) rfl T.g_Amount (passE rfl rfl rfl rfl) (pa_cons (pe_op op_add (pe_op op_mulW (pe_fld (pv 0) rfl) (pe_fld (pv 2) rfl)) (pe_op op_mulW (pe_fld (pv 2) rfl) (pe_fld (pv 0) rfl))) (pa_cons (pe_op op_mulW (pe_fld (pv 0) rfl) (pe_fld (pv 2) rfl)) pa_nil)))))), ?_⟩
    rcases hc with ⟨y, hy, by_, k⟩ | ⟨hw, hno, k⟩
    · refine ⟨_, rfl, v, rfl, hv, .inl ⟨y, hy, fun p H1 s1 hq => ?_⟩⟩
      obtain ⟨da, ha1⟩ := ha.up s1
      obtain ⟨dp, hp⟩ := hq
      refine ⟨_, rfl, a, _, da, _, _, rfl, ha1, T.cls_Amount, T.no_Amount_own_top, rfl, _, rfl, p, _, dp, _, _, rfl, hp, T.cls_Amount, T.no_Amount_own_bottom, rfl, _, _, rfl, rfl, mul_ok bx.1 (den_bits by_), ?_⟩
      refine ⟨_, rfl, p, _, dp, _, _, rfl, hp, T.cls_Amount, T.no_Amount_own_top, rfl, _, rfl, a, _, da, _, _, rfl, ha1, T.cls_Amount, T.no_Amount_own_bottom, rfl, _, _, rfl, rfl, mul_ok by_.1 (den_bits bx), ?_⟩
      refine ⟨_, _, rfl, rfl, ?_⟩
      refine ⟨_, rfl, a, _, da, _, _, rfl, ha1, T.cls_Amount, T.no_Amount_own_bottom, rfl, _, rfl, p, _, dp, _, _, rfl, hp, T.cls_Amount, T.no_Amount_own_bottom, rfl, _, _, rfl, rfl, mul_ok (den_bits bx) (den_bits by_), ?_⟩
      refine fun q dq hq hdq hne => ⟨q, dq, _, _, rfl, upd_same, .int _, .int _, .inl ⟨_, _, rfl, rfl, Int.mul_ne_zero (den_ne x) (den_ne y), bot_ok (den_bits bx) (den_bits by_), rfl, ?_⟩⟩
      refine k q _ (s1.trans (made_same hq hdq)) (none_of s1 hq) ⟨dq, ?_⟩
      rw [upd_same, q_add]
      rfl
    · exact ⟨_, rfl, v, rfl, hv, .inr ⟨hw, hno, k⟩⟩
theorem sc_Amount_sub_ : FnScope ["self", "other", "by"] ["self", "other"] (defScope s_Amount_sub_) := ⟨rfl, rfl, rfl, by decide +kernel, rfl, by decide +kernel, by decide +kernel⟩
theorem ok_Amount_sub_ (T : Tx K mg base) : Ok P w K mg base 6 (d_Amount_sub_.loc K) ["self", "other"] (spBin (fun x y => x - y) K) := by
  refine mk_ok (k := 5) T.f_Amount_sub_ sc_Amount_sub_ (fun _ _ _ _ _ _ us hl => match us, hl with | [_, _], _ => rfl) (fun vs H Q E h => ?_) (fun cdv A outer s H vs Q E hr h => ?_)
  · obtain ⟨a, v, x, rfl, _⟩ := h
    rfl
  · obtain ⟨a, v, x, rfl, ha, bx, hv, hc⟩ := h
    refine ⟨_, (pss_cons (ps_set (i := 2) sc_Amount_sub_.nd rfl (Or.inl rfl) (ok_call (ok_amount_from T) (hr.mono (by decide)) rfl T.g_amount_from (passE rfl rfl rfl rfl) (pa_cons (pv 1) pa_nil)))
      (pss_one (ps_ret (ok_make T.mkr_Amount (ok_Amount_init_ T) (hr.mono (by decide)) rfl T.g_Amount (passE rfl rfl rfl rfl) (pa_cons (pe_op op_sub (pe_op op_mulW (pe_fld (pv 0) rfl) (pe_fld (pv 2) rfl)) (pe_op op_mulW (pe_fld (pv 2) rfl) (pe_fld (pv 0) rfl))) (pa_cons (pe_op op_mulW (pe_fld (pv 0) rfl) (pe_fld (pv 2) rfl)) pa_nil)))))), ?_⟩
    rcases hc with ⟨y, hy, by_, k⟩ | ⟨hw, hno, k⟩
    · refine ⟨_, rfl, v, rfl, hv, .inl ⟨y, hy, fun p H1 s1 hq => ?_⟩⟩
      obtain ⟨da, ha1⟩ := ha.up s1
      obtain ⟨dp, hp⟩ := hq
      refine ⟨_, rfl, a, _, da, _, _, rfl, ha1, T.cls_Amount, T.no_Amount_own_top, rfl, _, rfl, p, _, dp, _, _, rfl, hp, T.cls_Amount, T.no_Amount_own_bottom, rfl, _, _, rfl, rfl, mul_ok bx.1 (den_bits by_), ?_⟩
      refine ⟨_, rfl, p, _, dp, _, _, rfl, hp, T.cls_Amount, T.no_Amount_own_top, rfl, _, rfl, a, _, da, _, _, rfl, ha1, T.cls_Amount, T.no_Amount_own_bottom, rfl, _, _, rfl, rfl, mul_ok by_.1 (den_bits bx), ?_⟩
      refine ⟨_, _, rfl, rfl, ?_⟩
      refine ⟨_, rfl, a, _, da, _, _, rfl, ha1, T.cls_Amount, T.no_Amount_own_bottom, rfl, _, rfl, p, _, dp, _, _, rfl, hp, T.cls_Amount, T.no_Amount_own_bottom, rfl, _, _, rfl, rfl, mul_ok (den_bits bx) (den_bits by_), ?_⟩
      refine fun q dq hq hdq hne => ⟨q, dq, _, _, rfl, upd_same, .int _, .int _, .inl ⟨_, _, rfl, rfl, Int.mul_ne_zero (den_ne x) (den_ne y), bot_ok (den_bits bx) (den_bits by_), rfl, ?_⟩⟩
      refine k q _ (s1.trans (made_same hq hdq)) (none_of s1 hq) ⟨dq, ?_⟩
      rw [upd_same, q_sub]
      rfl
    · exact ⟨_, rfl, v, rfl, hv, .inr ⟨hw, hno, k⟩⟩
theorem sc_Amount_mul_ : FnScope ["self", "other", "by"] ["self", "other"] (defScope s_Amount_mul_) := ⟨rfl, rfl, rfl, by decide +kernel, rfl, by decide +kernel, by decide +kernel⟩
theorem ok_Amount_mul_ (T : Tx K mg base) : Ok P w K mg base 6 (d_Amount_mul_.loc K) ["self", "other"] (spBin (fun x y => x * y) K) := by
  refine mk_ok (k := 5) T.f_Amount_mul_ sc_Amount_mul_ (fun _ _ _ _ _ _ us hl => match us, hl with | [_, _], _ => rfl) (fun vs H Q E h => ?_) (fun cdv A outer s H vs Q E hr h => ?_)
  · obtain ⟨a, v, x, rfl, _⟩ := h
    rfl
  · obtain ⟨a, v, x, rfl, ha, bx, hv, hc⟩ := h
    refine ⟨_, (pss_cons (ps_set (i := 2) sc_Amount_mul_.nd rfl (Or.inl rfl) (ok_call (ok_amount_from T) (hr.mono (by decide)) rfl T.g_amount_from (passE rfl rfl rfl rfl) (pa_cons (pv 1) pa_nil)))
      (pss_one (ps_ret (ok_make T.mkr_Amount (ok_Amount_init_ T) (hr.mono (by decide)) rfl T.g_Amount (passE rfl rfl rfl rfl) (pa_cons (pe_op op_mulW (pe_fld (pv 0) rfl) (pe_fld (pv 2) rfl)) (pa_cons (pe_op op_mulW (pe_fld (pv 0) rfl) (pe_fld (pv 2) rfl)) pa_nil)))))), ?_⟩
    rcases hc with ⟨y, hy, by_, k⟩ | ⟨hw, hno, k⟩
    · refine ⟨_, rfl, v, rfl, hv, .inl ⟨y, hy, fun p H1 s1 hq => ?_⟩⟩
      obtain ⟨da, ha1⟩ := ha.up s1
      obtain ⟨dp, hp⟩ := hq
      refine ⟨_, rfl, a, _, da, _, _, rfl, ha1, T.cls_Amount, T.no_Amount_own_top, rfl, _, rfl, p, _, dp, _, _, rfl, hp, T.cls_Amount, T.no_Amount_own_top, rfl, _, _, rfl, rfl, mul_ok bx.1 by_.1, ?_⟩
      refine ⟨_, rfl, a, _, da, _, _, rfl, ha1, T.cls_Amount, T.no_Amount_own_bottom, rfl, _, rfl, p, _, dp, _, _, rfl, hp, T.cls_Amount, T.no_Amount_own_bottom, rfl, _, _, rfl, rfl, mul_ok (den_bits bx) (den_bits by_), ?_⟩
      refine fun q dq hq hdq hne => ⟨q, dq, _, _, rfl, upd_same, .int _, .int _, .inl ⟨_, _, rfl, rfl, Int.mul_ne_zero (den_ne x) (den_ne y), bot_ok (den_bits bx) (den_bits by_), rfl, ?_⟩⟩
      refine k q _ (s1.trans (made_same hq hdq)) (none_of s1 hq) ⟨dq, ?_⟩
      rw [upd_same, q_mul]
      rfl
    · exact ⟨_, rfl, v, rfl, hv, .inr ⟨hw, hno, k⟩⟩
def spNeg (K : PySem.W.Frag) : Sp := fun vs H Q _ => ∃ a x, vs = [.ref a] ∧ IsQ K H a x ∧ Bits 3000 x ∧ ∀ p H', Same H H' → H p = none → IsQ K H' p (-x) → Q (.ref p) H'
theorem sc_Amount_neg_ : FnScope ["self"] ["self"] (defScope s_Amount_neg_) := ⟨rfl, rfl, rfl, by decide +kernel, rfl, by decide +kernel, by decide +kernel⟩
theorem ok_Amount_neg_ (T : Tx K mg base) : Ok P w K mg base 6 (d_Amount_neg_.loc K) ["self"] (spNeg K) := by
  refine mk_ok (k := 5) T.f_Amount_neg_ sc_Amount_neg_ (fun _ _ _ _ _ _ us hl => match us, hl with | [_], _ => rfl) (fun vs H Q E h => ?_) (fun cdv A outer s H vs Q E hr h => ?_)
  · obtain ⟨a, x, rfl, _⟩ := h
    rfl
  · obtain ⟨a, x, rfl, ha, bx, k⟩ := h
    refine ⟨_, (pss_one (ps_ret (ok_make T.mkr_Amount (ok_Amount_init_ T) (hr.mono (by decide)) rfl T.g_Amount (passE rfl rfl rfl rfl) (pa_cons (pe_un un_neg (pe_fld (pv 0) rfl)) (pa_cons (pe_fld (pv 0) rfl) pa_nil))))), ?_⟩
    obtain ⟨da, ha1⟩ := id ha
    refine ⟨_, rfl, a, _, da, _, _, rfl, ha1, T.cls_Amount, T.no_Amount_own_top, rfl, _, rfl, ?_⟩
    refine ⟨_, rfl, a, _, da, _, _, rfl, ha1, T.cls_Amount, T.no_Amount_own_bottom, rfl, ?_⟩
    refine fun q dq hq hdq hne => ⟨q, dq, _, _, rfl, upd_same, .int _, .int _, .inl ⟨_, _, rfl, rfl, den_ne x, Nat.lt_of_lt_of_le (den_bits bx) (Nat.pow_le_pow_right (by decide) (by decide)), rfl, ?_⟩⟩
    refine k q _ (made_same hq hdq) hq ⟨dq, ?_⟩
    rw [upd_same, q_neg]
    rfl
def spEqA (K : PySem.W.Frag) : Sp := fun vs H Q _ => ∃ a b x y, vs = [.ref a, .ref b] ∧ IsQ K H a x ∧ IsQ K H b y ∧ Q (.bl (decide (x = y))) H
theorem sc_Amount_eq_ : FnScope ["self", "other"] ["self", "other"] (defScope s_Amount_eq_) := ⟨rfl, rfl, rfl, by decide +kernel, rfl, by decide +kernel, by decide +kernel⟩
theorem ok_Amount_eq_ (T : Tx K mg base) : Ok P w K mg base 2 (d_Amount_eq_.loc K) ["self", "other"] (spEqA K) := by
  refine mk_ok (k := 1) T.f_Amount_eq_ sc_Amount_eq_ (fun _ _ _ _ _ _ us hl => match us, hl with | [_, _], _ => rfl) (fun vs H Q E h => ?_) (fun cdv A outer s H vs Q E hr h => ?_)
  · obtain ⟨a, b, x, y, rfl, _⟩ := h
    rfl
  · obtain ⟨a, b, x, y, rfl, ha, hb, k⟩ := h
    refine ⟨_, (pss_cons (ps_if (pt_not (pt_val (pe_callB call_isi (by rfl) T.b_isinstance (by decide +kernel) (pa_cons (pv 1) (pa_cons (pe_gr T.g_Amount) pa_nil))))) (pss_one (ps_ret pe_never)) pss_nil)
      (pss_one (ps_ret (pe_and (pe_cmpR op_eq (pe_fld (pv 0) rfl) (pe_fld (pv 1) rfl) (nomark _)) (pe_one (pe_cmpR op_eq (pe_fld (pv 0) rfl) (pe_fld (pv 1) rfl) (nomark _))))))), ?_⟩
    obtain ⟨da, ha1⟩ := id ha
    obtain ⟨dp, hp⟩ := id hb
    refine ⟨_, rfl, _, _, _, _, _, rfl, .own _, T.ins_Amount hp, T.k_Amount_Amount, _, rfl, iteF ?_⟩
    refine ⟨_, rfl, a, _, da, _, _, rfl, ha1, T.cls_Amount, T.no_Amount_own_top, rfl, _, rfl, b, _, dp, _, _, rfl, hp, T.cls_Amount, T.no_Amount_own_top, rfl, rfl, _, rfl, ?_⟩
    by_cases e : x.num = y.num
    · rw [decide_eq_true (congrArg V.int e)]
      refine iteT ⟨_, rfl, a, _, da, _, _, rfl, ha1, T.cls_Amount, T.no_Amount_own_bottom, rfl, _, rfl, b, _, dp, _, _, rfl, hp, T.cls_Amount, T.no_Amount_own_bottom, rfl, rfl, ?_⟩
      by_cases e2 : x.den = y.den
      · rw [decide_eq_true (show V.int (x.den : Int) = V.int (y.den : Int) by rw [e2])]
        rw [decide_eq_true (Rat.ext e e2)] at k
        exact k
      · rw [decide_eq_false (show ¬ V.int (x.den : Int) = V.int (y.den : Int) from fun z => e2 (by have := V.int.inj z; omega))]
        rw [decide_eq_false (fun z => e2 (by rw [z]))] at k
        exact k
    · rw [decide_eq_false (fun z => e (V.int.inj z))]
      rw [decide_eq_false (fun z => e (by rw [z]))] at k
      exact iteF k
end
end K34

set_option maxHeartbeats 4000000
namespace K34
open PySem PySem.Spec PyProof.Rows L2 AT
section
variable {P : Program} {w : World} {K : PySem.W.Frag} {mg : Str → Option Value} {base : Heap}
/-- a list or a tuple of xs -/
def Sq (H : Hp) (v : V) (xs : List V) : Prop := ∃ a, v = .ref a ∧ (H a = some (.lst xs) ∨ H a = some (.tup xs))
theorem Sq.up {H H' : Hp} {v : V} {xs : List V} (h : Sq H v xs) (s : Same H H') : Sq H' v xs := by
  obtain ⟨a, e, h | h⟩ := h
  · exact ⟨a, e, .inl (s _ _ h)⟩
  · exact ⟨a, e, .inr (s _ _ h)⟩
theorem Sq.inj {H : Hp} {v : V} {xs ys : List V} (h : Sq H v xs) (g : Sq H v ys) : xs = ys := by
  obtain ⟨a, rfl, h⟩ := h
  obtain ⟨b, e, g⟩ := g
  cases e
  rcases h with h | h <;> rcases g with g | g <;> (rw [h] at g; cases g <;> rfl)
theorem isi_seq (T : Tx K mg base) {H : Hp} {v : V} (h : AnyV K H v) : ∃ t b, TyX K H v t ∧ PySem.W.kitAny K t [.type "list", .type "tuple"] = some b ∧ ((b = true ∧ ∃ xs, Sq H v xs) ∨ (b = false ∧ ¬ ∃ xs, Sq H v xs)) := by
  have no : ∀ {o : HO} {a : Addr}, H a = some o → (∀ xs, o ≠ .lst xs ∧ o ≠ .tup xs) → ¬ ∃ xs, Sq H (.ref a) xs := by
    rintro o a e hn ⟨xs, b, q, z⟩
    cases q
    rcases z with z | z
    · rw [e] at z; cases z; exact (hn xs).1 rfl
    · rw [e] at z; cases z; exact (hn xs).2 rfl
  have k2 : ∀ {t : Value} {b c : Bool}, PySem.W.kitOne K t (.type "list") = some b → PySem.W.kitOne K t (.type "tuple") = some c → PySem.W.kitAny K t [.type "list", .type "tuple"] = some (b || c) := by
    intro t b c e1 e2
    simp only [PySem.W.kitAny, e1, e2]
    cases b <;> cases c <;> rfl
  cases h with
  | non => exact ⟨_, _, .base .non, k2 (kit_ty (r := false) (by decide +kernel)) (kit_ty (r := false) (by decide +kernel)), .inr ⟨rfl, fun ⟨_, _, q, _⟩ => nomatch q⟩⟩
  | bl b => exact ⟨_, _, .base (.bl b), k2 (kit_ty (r := false) (by decide +kernel)) (kit_ty (r := false) (by decide +kernel)), .inr ⟨rfl, fun ⟨_, _, q, _⟩ => nomatch q⟩⟩
  | int i => exact ⟨_, _, .base (.int i), k2 (kit_ty (r := false) (by decide +kernel)) (kit_ty (r := false) (by decide +kernel)), .inr ⟨rfl, fun ⟨_, _, q, _⟩ => nomatch q⟩⟩
  | str x => exact ⟨_, _, .base (.str x), k2 (kit_ty (r := false) (by decide +kernel)) (kit_ty (r := false) (by decide +kernel)), .inr ⟨rfl, fun ⟨_, _, q, _⟩ => nomatch q⟩⟩
  | lst e => exact ⟨_, _, .base (.lst e), k2 (kit_ty (r := true) (by decide +kernel)) (kit_ty (r := false) (by decide +kernel)), .inl ⟨rfl, _, _, rfl, .inl e⟩⟩
  | tup e => exact ⟨_, _, .base (.tup e), k2 (kit_ty (r := false) (by decide +kernel)) (kit_ty (r := true) (by decide +kernel)), .inl ⟨rfl, _, _, rfl, .inr e⟩⟩
  | dct e => exact ⟨_, _, .base (.dK e), k2 (kit_ty (r := false) (by decide +kernel)) (kit_ty (r := false) (by decide +kernel)), .inr ⟨rfl, no e fun _ => ⟨(fun z => nomatch z), (fun z => nomatch z)⟩⟩⟩
  | oth o e => exact ⟨_, _, o.ty e, k2 o.lst o.tup, .inr ⟨rfl, no e fun _ => ⟨(fun z => nomatch z), (fun z => nomatch z)⟩⟩⟩
  | amt e =>
    obtain ⟨dx, e⟩ := e
    exact ⟨_, _, T.ins_Amount e, k2 T.k_Amount_list T.k_Amount_tuple, .inr ⟨rfl, no e fun _ => ⟨(fun z => nomatch z), (fun z => nomatch z)⟩⟩⟩
theorem TyX.new {H : Hp} {v : V} {t : Value} {p : Addr} {o : HO} (hv : AnyV K H v) (hp : H p = none) (T : Tx K mg base) : AnyV K (upd H p o) v := hv.up (AT.Same.up hp)
def spIsList (K : PySem.W.Frag) : Sp := fun vs H Q _ => ∃ v, vs = [v] ∧ AnyV K H v ∧ ((∃ xs, Sq H v xs) → ∀ H', Same H H' → Q (.bl true) H') ∧ ((¬ ∃ xs, Sq H v xs) → ∀ H', Same H H' → Q (.bl false) H')
theorem sc_is_list : FnScope ["value"] ["value"] (defScope s_is_list) := ⟨rfl, rfl, rfl, by decide +kernel, rfl, by decide +kernel, by decide +kernel⟩
theorem ok_is_list (T : Tx K mg base) : Ok P w K mg base 1 (d_is_list.loc K) ["value"] (spIsList K) := by
  refine mk_ok (k := 0) T.f_is_list sc_is_list (fun _ _ _ _ _ _ us hl => match us, hl with | [_], _ => rfl) (fun vs H Q E h => ?_) (fun cdv A outer s H vs Q E hr h => ?_)
  · obtain ⟨v, rfl, _⟩ := h
    rfl
  · obtain ⟨v, rfl, hv, k1, k2⟩ := h
    refine ⟨_, (pss_one (ps_ret (pe_callB call_isiT (by rfl) T.b_isinstance (by decide +kernel) (pa_cons (pv 0) (pa_cons (pe_tup (pa_cons (pe_bltn (v := .ty "list") rfl T.b_list (by decide +kernel) rfl) (pa_cons (pe_bltn (v := .ty "tuple") rfl T.b_tuple (by decide +kernel) rfl) pa_nil))) pa_nil))))), ?_⟩
    refine ⟨_, rfl, (by show 2 ≤ sizeLine; decide), fun p hp => ?_⟩
    have s1 : Same H (upd H p (.tup [.ty "list", .ty "tuple"])) := AT.Same.up hp
    obtain ⟨t, b, ty, kit, hb⟩ := isi_seq T (hv.up s1)
    refine ⟨_, p, _, _, _, _, rfl, upd_same, .cons (.ty _) (.cons (.ty _) .nil), ty, kit, ?_⟩
    rcases hb with ⟨rfl, xs, hs⟩ | ⟨rfl, hn⟩
    · by_cases z : ∃ xs, Sq H v xs
      · exact k1 z _ s1
      · exfalso
        obtain ⟨a, rfl, hs⟩ := hs
        refine z ⟨xs, a, rfl, ?_⟩
        have ne : a ≠ p := by
          rintro rfl
          cases hv with
          | lst e => rw [e] at hp; cases hp
          | tup e => rw [e] at hp; cases hp
          | dct e => rw [e] at hp; cases hp
          | amt e => obtain ⟨_, e⟩ := e; rw [e] at hp; cases hp
          | oth o e => rw [e] at hp; cases hp
        rw [upd_ne ne] at hs
        exact hs
    · exact k2 (fun ⟨xs, z⟩ => hn ⟨xs, z.up s1⟩) _ s1
def spIsRow (K : PySem.W.Frag) : Sp := fun vs H Q _ => ∃ v, ∃ m : Nat, vs = [v, .int m] ∧ AnyV K H v ∧ (∀ xs, Sq H v xs → ∀ H', Same H H' → Q (.bl (decide (xs.length = m))) H') ∧ ((¬ ∃ xs, Sq H v xs) → ∀ H', Same H H' → Q (.bl false) H')
theorem sc_is_row : FnScope ["value", "many"] ["value", "many"] (defScope s_is_row) := ⟨rfl, rfl, rfl, by decide +kernel, rfl, by decide +kernel, by decide +kernel⟩
theorem ok_is_row (T : Tx K mg base) : Ok P w K mg base 2 (d_is_row.loc K) ["value", "many"] (spIsRow K) := by
  refine mk_ok (k := 1) T.f_is_row sc_is_row (fun _ _ _ _ _ _ us hl => match us, hl with | [_, _], _ => rfl) (fun vs H Q E h => ?_) (fun cdv A outer s H vs Q E hr h => ?_)
  · obtain ⟨v, m, rfl, _⟩ := h
    rfl
  · obtain ⟨v, m, rfl, hv, k1, k2⟩ := h
    refine ⟨_, (pss_one (ps_ret (pe_and (ok_call (ok_is_list T) (hr.mono (by decide)) rfl T.g_is_list passL (pa_cons (pv 0) pa_nil)) (pe_one (pe_cmpR op_eq (pe_callB call_len_seq (by rfl) T.b_len (by decide +kernel) (pa_cons (pv 0) pa_nil)) (pv 1) (nomark _)))))), ?_⟩
    refine ⟨_, rfl, v, rfl, hv, fun ⟨xs, hx⟩ H1 s1 => ?_, fun hn H1 s1 => ?_⟩
    · refine ⟨_, rfl, iteT ?_⟩
      obtain ⟨a, rfl, ha⟩ := hx.up s1
      have e : ∀ n : Nat, decide (V.int (n : Int) = V.int (m : Int)) = decide (n = m) := fun n => by
        by_cases z : n = m
        · rw [z]; simp
        · rw [decide_eq_false z, decide_eq_false (fun q => z (by have := V.int.inj q; omega))]
      refine ⟨_, rfl, a, _, rfl, ha.imp SqL.of SqT.of, _, rfl, rfl, ?_⟩
      rw [e]
      exact k1 xs hx _ s1
    · exact ⟨_, rfl, iteF (k2 hn _ s1)⟩
end
end K34

set_option maxHeartbeats 4000000
namespace K34
open PySem PySem.Spec PyProof.Rows L2 AT
/-! ### texts by their codes; the tests of validation -/
def letters : Str := "abcdefghijklmnopqrstuvwxyz"
def digits : Str := "0123456789"
def inS (c : Nat) (z : Str) : Bool := decide (c ∈ z.cps.toList)
def isNameS (z : Str) : Bool := decide (0 < (z.length : Int)) && (decide ((z.length : Int) ≤ 8) && (inS (z.cps.getD 0 0) letters && z.cps.toList.all fun c => inS c letters || inS c digits))
def nameV : V → Bool
  | .str z => isNameS z
  | _ => false
def unitV : V → Bool
  | .str z => decide (z = "beats") || decide (z = "seconds")
  | _ => false
def wordV : V → Bool
  | .str z => decide (z = "before") || (decide (z = "same") || decide (z = "after"))
  | _ => false
def inV3 (v : V) (lo hi : Int) : Bool := match v with
  | .int i => decide (lo ≤ i) && decide (i ≤ hi)
  | _ => false
section
variable {P : Program} {w : World} {K : PySem.W.Frag} {mg : Str → Option Value} {base : Heap}
theorem isi_str (T : Tx K mg base) {H : Hp} {v : V} (h : AnyV K H v) : ∃ t, TyX K H v t ∧ PySem.W.kitOne K t (.type "str") = some (strV v) := by
  cases h with
  | non  => exact ⟨_, .base .non, kit_ty (r := false) (by decide +kernel)⟩
  | bl b => exact ⟨_, .base (.bl b), kit_ty (r := false) (by decide +kernel)⟩
  | int i => exact ⟨_, .base (.int i), kit_ty (r := false) (by decide +kernel)⟩
  | str x => exact ⟨_, .base (.str x), kit_ty (r := true) (by decide +kernel)⟩
  | lst e => exact ⟨_, .base (.lst e), kit_ty (r := false) (by decide +kernel)⟩
  | tup e => exact ⟨_, .base (.tup e), kit_ty (r := false) (by decide +kernel)⟩
  | dct e => exact ⟨_, .base (.dK e), kit_ty (r := false) (by decide +kernel)⟩
  | amt e => obtain ⟨dx, e⟩ := e; exact ⟨_, T.ins_Amount e, T.k_Amount_str⟩
  | oth o e => exact ⟨_, o.ty e, o.str⟩
theorem flat2 : ([V.str "beats", V.str "seconds"] : List V).all flatV = true := rfl
theorem in2 (z : Str) : inV (.str z) [V.str "beats", V.str "seconds"] = unitV (.str z) := by
  unfold inV unitV
  simp only [List.any_cons, List.any_nil, Bool.or_false, eqV]
  congr 1 <;> (rw [Bool.eq_iff_iff]; simp only [beq_iff_eq, decide_eq_true_eq]; exact eq_comm)
def spUnit (K : PySem.W.Frag) : Sp := fun vs H Q _ => ∃ v, vs = [v] ∧ AnyV K H v ∧ Q (.bl (unitV v)) H
theorem sc_is_unit : FnScope ["value"] ["value"] (defScope s_is_unit) := ⟨rfl, rfl, rfl, by decide +kernel, rfl, by decide +kernel, by decide +kernel⟩
theorem ok_is_unit (T : Tx K mg base) : Ok P w K mg base 1 (d_is_unit.loc K) ["value"] (spUnit K) := by
  refine mk_ok (k := 0) T.f_is_unit sc_is_unit (fun _ _ _ _ _ _ us hl => match us, hl with | [_], _ => rfl) (fun vs H Q E h => ?_) (fun cdv A outer s H vs Q E hr h => ?_)
  · obtain ⟨v, rfl, _⟩ := h
    rfl
  · obtain ⟨v, rfl, hv, k⟩ := h
    refine ⟨_, (pss_one (ps_ret (pe_and (pe_callB call_isi (by rfl) T.b_isinstance (by decide +kernel) (pa_cons (pv 0) (pa_cons (pe_bltn (v := .ty "str") rfl T.b_str (by decide +kernel) rfl) pa_nil))) (pe_one (pe_cmpR op_in_seq (pv 0) (pe_gr T.g_UNITS) (by rfl)))))), ?_⟩
    obtain ⟨t1, y1, q1⟩ := isi_str T hv
    refine ⟨_, rfl, _, _, _, _, _, rfl, .ty _, y1, q1, _, rfl, ?_⟩
    cases hv with
    | str z =>
      refine ⟨_, rfl, _, _, rfl, .inl (T.l_UNITS H), rfl, flat2, ?_⟩
      show Q (.bl (inV (.str z) [V.str "beats", V.str "seconds"])) H
      rw [in2]
      exact k
    | _ => exact k
def spNeedUnit (K : PySem.W.Frag) : Sp := fun vs H Q E => ∃ v, vs = [v] ∧ AnyV K H v ∧ (unitV v = true → Q .non H) ∧ (unitV v = false → Rf K "InvalidUnit" "value" v H E)
theorem sc_need_unit : FnScope ["unit"] ["unit"] (defScope s_need_unit) := ⟨rfl, rfl, rfl, by decide +kernel, rfl, by decide +kernel, by decide +kernel⟩
theorem ok_need_unit (T : Tx K mg base) : Ok P w K mg base 3 (d_need_unit.loc K) ["unit"] (spNeedUnit K) := by
  refine mk_ok (k := 2) T.f_need_unit sc_need_unit (fun _ _ _ _ _ _ us hl => match us, hl with | [_], _ => rfl) (fun vs H Q E h => ?_) (fun cdv A outer s H vs Q E hr h => ?_)
  · obtain ⟨v, rfl, _⟩ := h
    rfl
  · obtain ⟨v, rfl, hv, k1, k2⟩ := h
    refine ⟨_, (pss_one (ps_if (pt_not (pt_val (ok_call (ok_is_unit T) (hr.mono (by decide)) rfl T.g_is_unit passL (pa_cons (pv 0) pa_nil)))) (pss_one (ps_rs rfl (mx_InvalidUnit T (hr.mono (by decide))) (takes_of rfl rfl rfl rfl) rfl (pv 0))) pss_nil)), ?_⟩
    refine ⟨_, rfl, v, rfl, hv, _, rfl, ?_⟩
    cases e : unitV v with
    | true => exact iteF (k1 e)
    | false => exact iteT ⟨_, rfl, mk_at T.xc_InvalidUnit.oex T.xc_InvalidUnit.no (rf_of (k2 e))⟩
theorem str_len (z : Str) : z.length = z.cps.size := rfl
theorem at0 {z : Str} (h : 0 < (z.length : Int)) : atI z.cps.toList 0 = some (z.cps.getD 0 0) := by
  have h1 : 0 < z.cps.size := by rw [str_len] at h; omega
  have : z.cps.toList[0]? = some (z.cps.getD 0 0) := by
    rw [Array.getElem?_toList, Array.getElem?_eq_getElem h1]
    simp [Array.getD, h1]
  exact atI_nat this
def spName (K : PySem.W.Frag) : Sp := fun vs H Q _ => ∃ v, vs = [v] ∧ AnyV K H v ∧ (∀ z, v = .str z → z.length < sizeLine) ∧ ∀ H', Same H H' → Q (.bl (nameV v)) H'
theorem sc_is_name : FnScope ["value", "letter"] ["value"] (defScope s_is_name) := ⟨rfl, rfl, rfl, by decide +kernel, rfl, by decide +kernel, by decide +kernel⟩
theorem ok_is_name (T : Tx K mg base) : Ok P w K mg base 1 (d_is_name.loc K) ["value"] (spName K) := by
  refine mk_ok (k := 0) T.f_is_name sc_is_name (fun _ _ _ _ _ _ us hl => match us, hl with | [_], _ => rfl) (fun vs H Q E h => ?_) (fun cdv A outer s H vs Q E hr h => ?_)
  · obtain ⟨v, rfl, _⟩ := h
    rfl
  · obtain ⟨v, rfl, hv, hz, k⟩ := h
    refine ⟨_, (pss_cons (ps_if (PW.pt (pw_or (pt_not (pt_val (pe_callB call_isi (by rfl) T.b_isinstance (by decide +kernel) (pa_cons (pv 0) (pa_cons (pe_bltn (v := .ty "str") rfl T.b_str (by decide +kernel) rfl) pa_nil))))) (pw_or (pt_not (pt_chain op_lt op_le pe_int (pe_callB call_len_str (by rfl) T.b_len (by decide +kernel) (pa_cons (pv 0) pa_nil)) (pe_k T.c_LONGEST_NAME))) (pw_or1 (pt_cmpR op_notInS (pe_ix ix_str (pv 0) pe_int (fun _ _ => rfl)) (pe_k T.c_LETTERS) (by rfl)))))) (pss_one (ps_ret pe_bl)) pss_nil)
      (pss_one (ps_ret (pe_callB (cr_all rfl) (by rfl) T.b_all (by decide +kernel) (pa_cons (pe_lc (own := [("letter", 1)]) (g := (gName 1)) (tt := tYes) (by rfl) sc_is_name.nd (pi_str (pv 0)) (blkOk_by (own := [("letter", 1)]) (N := ["value", "letter"]) (sc := defScope s_is_name) (by decide +kernel)) (fun _ _ _ _ _ => (pg_name (i := 1) sc_is_name.nd rfl (Or.inl rfl))) (fun _ _ _ _ _ => pts_nil) (fun _ _ _ _ _ => (pe_or (pe_cmpR op_inS (pv 1) (pe_k T.c_LETTERS) (by rfl)) (pe_one (pe_cmpR op_inS (pv 1) (pe_k T.c_DIGITS) (by rfl)))))) pa_nil))))), ?_⟩
    obtain ⟨t1, y1, q1⟩ := isi_str T hv
    refine ⟨_, rfl, _, _, _, _, _, rfl, .ty _, y1, q1, _, rfl, ?_⟩
    cases hv with
    | str z =>
      have hz1 := hz z rfl
      refine iteF ⟨_, rfl, z, rfl, Nat.le_of_lt hz1, _, _, rfl, rfl, _, rfl, ?_⟩
      refine ite2 (fun h1 => ?_) (fun h1 => ?_)
      · have h1' : 0 < (z.length : Int) := of_decide_eq_true h1
        refine ⟨_, _, rfl, rfl, _, rfl, ?_⟩
        by_cases h2 : (z.length : Int) ≤ 8
        · rw [decide_eq_true h2]
          refine iteF ⟨_, rfl, z, 0, _, rfl, rfl, Nat.le_of_lt hz1, at0 h1', _, _, rfl, rfl, _, rfl, ?_⟩
          by_cases h3 : inS (z.cps.getD 0 0) letters = true
          · rw [show decide (z.cps.getD 0 0 ∈ (Str.cps "abcdefghijklmnopqrstuvwxyz").toList) = true from h3]
            refine iteF ⟨_, rfl, z, rfl, fun D hD => ?_⟩
            refine lc_text (fun _ => true) (fun c => .bl (inS c letters || inS c digits)) hz1 hD (fun x => rfl) (fun c H' R _ _ k2 => k2 H' (Same.refl _)) (fun c H' R _ _ k2 => ?_) (fun H' sm hl => ?_)
            · refine ⟨_, rfl, _, _, rfl, rfl, _, rfl, ?_⟩
              cases e : inS c letters with
              | true =>
                rw [show decide (c ∈ (Str.cps "abcdefghijklmnopqrstuvwxyz").toList) = true from e]
                have := k2 H' (Same.refl _)
                rw [e, Bool.true_or] at this
                exact iteT this
              | false =>
                rw [show decide (c ∈ (Str.cps "abcdefghijklmnopqrstuvwxyz").toList) = false from e]
                have := k2 H' (Same.refl _)
                rw [e, Bool.false_or] at this
                exact iteF ⟨_, rfl, _, _, rfl, rfl, this⟩
            · have e2 : (z.cps.toList.filter fun _ => true) = z.cps.toList := List.filter_eq_self.mpr fun _ _ => rfl
              rw [e2] at hl
              refine ⟨D, z.cps.toList.map fun c => inS c letters || inS c digits, rfl, SqL.of ?_, ?_⟩
              · rw [hl, List.map_map]
                rfl
              · have e3 : nameV (.str z) = (List.map (fun c => inS c letters || inS c digits) z.cps.toList).all id := by
                  show isNameS z = _
                  unfold isNameS
                  rw [decide_eq_true h1', decide_eq_true h2, h3, Bool.true_and, Bool.true_and, Bool.true_and, List.all_map]
                  rfl
                have := k H' sm
                rw [e3] at this
                exact this
          · have h3' : inS (z.cps.getD 0 0) letters = false := by simpa using h3
            rw [show decide (z.cps.getD 0 0 ∈ (Str.cps "abcdefghijklmnopqrstuvwxyz").toList) = false from h3']
            refine iteT ?_
            have e3 : nameV (.str z) = false := by
              show isNameS z = _
              unfold isNameS
              rw [h3', Bool.false_and, Bool.and_false, Bool.and_false]
            have := k H (Same.refl _)
            rw [e3] at this
            exact this
        · rw [decide_eq_false h2]
          refine iteT (iteT ?_)
          have e3 : nameV (.str z) = false := by
            show isNameS z = _
            unfold isNameS
            rw [decide_eq_false h2, Bool.false_and, Bool.and_false]
          have := k H (Same.refl _)
          rw [e3] at this
          exact this
      · refine ⟨_, rfl, ?_⟩
        refine iteT (iteT ?_)
        have h1' : decide (0 < (z.length : Int)) = false := by simpa using h1
        have e3 : nameV (.str z) = false := by
          show isNameS z = _
          unfold isNameS
          rw [h1', Bool.false_and]
        have := k H (Same.refl _)
        rw [e3] at this
        exact this
    | _ => exact iteT (iteT (k H (Same.refl _)))
end
end K34

set_option maxHeartbeats 4000000
namespace K34
open PySem PySem.Spec PyProof.Rows L2 AT
/-! ### tuples stay -/
def TT (H H' : Hp) : Prop := ∀ b xs, H b = some (.tup xs) → H' b = some (.tup xs)
theorem TT.refl (H : Hp) : TT H H := fun _ _ e => e
theorem TT.trans {H H1 H2 : Hp} (a : TT H H1) (b : TT H1 H2) : TT H H2 := fun x o e => b x o (a x o e)
theorem TT.of {H H' : Hp} (s : Same H H') : TT H H' := fun b xs e => s b _ e
theorem TT.up {H : Hp} {p : Addr} {o u : HO} (e : H p = some o) (h : ∀ xs, o ≠ .tup xs) : TT H (upd H p u) := fun b xs z => by
  rw [upd_ne (fun q => by subst q; rw [e] at z; cases z; exact h _ rfl)]
  exact z
theorem TT.new {H : Hp} {p : Addr} {u : HO} (e : H p = none) : TT H (upd H p u) := TT.of (AT.Same.up e)
section
variable {α β : Type} {F : α → β → Prop}
theorem prd_get : ∀ {l : List α} {m : List β}, Paired F l m → ∀ {i : Nat} {b : β}, m[i]? = some b → ∃ a, l[i]? = some a ∧ F a b
  | _, _, .nil, i, b, e => by cases e
  | _, _, .cons h t, 0, b, e => by cases e; exact ⟨_, rfl, h⟩
  | _, _, .cons h t, i + 1, b, e => prd_get t (i := i) e
theorem prd_getL : ∀ {l : List α} {m : List β}, Paired F l m → ∀ {i : Nat} {a : α}, l[i]? = some a → ∃ b, m[i]? = some b ∧ F a b
  | _, _, .nil, i, b, e => by cases e
  | _, _, .cons h t, 0, b, e => by cases e; exact ⟨_, rfl, h⟩
  | _, _, .cons h t, i + 1, b, e => prd_getL t (i := i) e
theorem prd_app : ∀ {l l' : List α} {m m' : List β}, Paired F l m → Paired F l' m' → Paired F (l ++ l') (m ++ m')
  | _, _, _, _, .nil, g => g
  | _, _, _, _, .cons h t, g => .cons h (prd_app t g)
theorem prd_take : ∀ {l : List α} {m : List β}, Paired F l m → ∀ n, Paired F (l.take n) (m.take n)
  | _, _, .nil, n => by rw [List.take_nil, List.take_nil]; exact .nil
  | _, _, .cons h t, 0 => .nil
  | _, _, .cons h t, n + 1 => .cons h (prd_take t n)
theorem prd_last {l : List α} {m : List β} (h : Paired F l m) {b : β} (e : m.getLast? = some b) : ∃ a, l.getLast? = some a ∧ F a b := by
  rw [List.getLast?_eq_getElem?] at e ⊢
  rw [h.length]
  exact prd_get h e
theorem prd_rev : ∀ {l : List α} {m : List β}, Paired F l m → Paired F l.reverse m.reverse
  | _, _, .nil => .nil
  | _, _, .cons h t => by rw [List.reverse_cons, List.reverse_cons]; exact Paired.snoc (prd_rev t) h
theorem prd_nil {l : List α} (h : Paired F l []) : l = [] := by cases h; rfl
end
/-! ### rows of the program: tuples of (unit, top, bottom) -/
abbrev Row := PR.Row Bool
def uS : Bool → Str
  | true => "beats"
  | false => "seconds"
theorem uS_inj {a b : Bool} (h : uS a = uS b) : a = b := by
  cases a <;> cases b <;> first | rfl | exact absurd h (by decide)
theorem uS_dec (a b : Bool) : decide (V.str (uS a) = V.str (uS b)) = decide (a = b) := by cases a <;> cases b <;> decide
theorem uS_unit (a : Bool) : unitV (.str (uS a)) = true := by cases a <;> decide
def memP (m : Bool × Rat) : HO := .tup [.str (uS m.1), .int m.2.num, .int m.2.den]
def MbP (H : Hp) (v : V) (m : Bool × Rat) : Prop := ∃ t, v = .ref t ∧ H t = some (memP m)
def RwP (H : Hp) (v : V) (r : Row) : Prop := ∃ a xs, v = .ref a ∧ H a = some (.tup xs) ∧ Paired (MbP H) xs r
theorem MbP.up {H H' : Hp} {v : V} {m : Bool × Rat} (h : MbP H v m) (s : TT H H') : MbP H' v m := h.imp fun _ z => ⟨z.1, s _ _ z.2⟩
theorem RwP.up {H H' : Hp} {v : V} {r : Row} (h : RwP H v r) (s : TT H H') : RwP H' v r := by
  obtain ⟨a, xs, e, h1, h2⟩ := h
  exact ⟨a, xs, e, s _ _ h1, Paired.mapP h2 fun _ _ z => z.up s⟩
theorem RwP.nil {H : Hp} {a : Addr} (h : H a = some (.tup [])) : RwP H (.ref a) [] := ⟨a, [], rfl, h, .nil⟩
def memD (m : Bool × Rat) : PyData := .tuple [.str (uS m.1), .int m.2.num, .int m.2.den]
def rowD (r : Row) : PyData := .tuple (r.map memD)
theorem MbP.dp {K : PySem.W.Frag} {H : Hp} {v : V} {m : Bool × Rat} (h : MbP H v m) : Dp K H v (memD m) := by
  obtain ⟨t, rfl, e⟩ := h
  exact .tup (SqT.of e) (.cons (.str _) (.cons (.int _) (.cons (.int _) .nil)))
theorem dpall {K : PySem.W.Frag} {H : Hp} {α : Type} {F : V → α → Prop} {D : α → PyData} (hF : ∀ v x, F v x → Dp K H v (D x)) : ∀ {xs : List V} {r : List α}, Paired F xs r → DpAll K H xs (r.map D)
  | _, _, .nil => .nil
  | _, _, .cons h t => .cons (hF _ _ h) (dpall hF t)
theorem RwP.dp {K : PySem.W.Frag} {H : Hp} {v : V} {r : Row} (h : RwP H v r) : Dp K H v (rowD r) := by
  obtain ⟨a, xs, rfl, h1, h2⟩ := h
  exact .tup (SqT.of h1) (dpall (fun _ _ z => z.dp) h2)
theorem memD_eqv (m n : Bool × Rat) : PyData.eqv (memD m) (memD n) = decide (m = n) := by
  obtain ⟨u, q⟩ := m
  obtain ⟨v, p⟩ := n
  have e : PyData.eqv (memD (u, q)) (memD (v, p)) = ((uS u == uS v) && (((q.num : Int) == p.num) && ((((q.den : Nat) : Int) == (p.den : Int)) && true))) := by simp only [memD, PyData.eqv, PyData.eqvAll]
  rw [e, Bool.eq_iff_iff]
  simp only [Bool.and_eq_true, beq_iff_eq, decide_eq_true_eq, Prod.mk.injEq, and_true]
  exact ⟨fun ⟨h1, h2, h3⟩ => ⟨uS_inj h1, Rat.ext h2 (by omega)⟩, fun ⟨h1, h2⟩ => by subst h1 h2; exact ⟨rfl, rfl, rfl⟩⟩
theorem eqvAll_map {α : Type} [DecidableEq α] {D : α → PyData} (hD : ∀ x y, PyData.eqv (D x) (D y) = decide (x = y)) : ∀ a b : List α, PyData.eqvAll (a.map D) (b.map D) = decide (a = b)
  | [], [] => by simp [PyData.eqvAll]
  | [], y :: b => by simp [PyData.eqvAll]
  | x :: a, [] => by simp [PyData.eqvAll]
  | x :: a, y :: b => by
    rw [List.map_cons, List.map_cons]
    simp only [PyData.eqvAll]
    rw [hD, eqvAll_map hD a b, Bool.eq_iff_iff]
    simp
theorem rowD_eqv (r s : Row) : PyData.eqv (rowD r) (rowD s) = decide (r = s) := by
  have e : PyData.eqv (rowD r) (rowD s) = PyData.eqvAll (r.map memD) (s.map memD) := by simp only [rowD, PyData.eqv]
  rw [e, eqvAll_map memD_eqv]
theorem lay_all {α : Type} {D : α → PyData} (h : ∀ x, (D x).canLay0 = true) : ∀ l : List α, PyData.canLayAll0 (l.map D) = true
  | [] => by simp [PyData.canLayAll0]
  | x :: l => by simp [PyData.canLayAll0, h x, lay_all h l]
theorem depth_all {α : Type} {D : α → PyData} {n : Nat} (h : ∀ x, (D x).depth ≤ n) : ∀ l : List α, PyData.depthAll (l.map D) ≤ n
  | [] => by simp [PyData.depthAll]
  | x :: l => by
    have h1 := h x
    have h2 := depth_all h l
    simp only [List.map_cons, PyData.depthAll]
    omega
theorem uS_ok (u : Bool) : PyData.strOk (uS u) = true := by cases u <;> decide +kernel
theorem memD_lay (m : Bool × Rat) : (memD m).canLay0 = true := by simp [memD, PyData.canLay0, PyData.canLayAll0, uS_ok]
theorem memD_depth (m : Bool × Rat) : (memD m).depth ≤ 1 := by simp [memD, PyData.depth, PyData.depthAll]
theorem rowD_lay (r : Row) : (rowD r).canLay0 = true := by
  simp only [rowD, PyData.canLay0]
  exact lay_all memD_lay r
theorem rowD_depth (r : Row) : (rowD r).depth ≤ 2 := by
  have := depth_all memD_depth r
  simp only [rowD, PyData.depth]
  omega
theorem shaped_of {d : PyData} {n : Nat} (h1 : d.canLay0 = true) (h2 : d.depth ≤ n) (hn : n ≤ 64) : SeqAt.shaped d = true := by
  show (d.canLay0 && decide (d.depth ≤ 64)) = true
  rw [Bool.and_eq_true]
  exact ⟨h1, decide_eq_true (by omega)⟩
theorem rowD_shaped (r : Row) : SeqAt.shaped (rowD r) = true := shaped_of (rowD_lay r) (rowD_depth r) (by decide)
theorem rowsD_shaped (rs : List Row) : SeqAt.shaped (.list (rs.map rowD)) = true := by
  refine shaped_of (n := 3) ?_ ?_ (by decide)
  · simp only [PyData.canLay0]
    exact lay_all rowD_lay rs
  · have := depth_all rowD_depth rs
    simp only [PyData.depth]
    omega
theorem any_eqv {α : Type} [DecidableEq α] {D : α → PyData} (hD : ∀ x y, PyData.eqv (D x) (D y) = decide (x = y)) (x : α) (l : List α) : ((l.map D).any fun z => PyData.eqv z (D x)) = decide (x ∈ l) := by
  rw [List.any_map, Bool.eq_iff_iff, List.any_eq_true]
  simp only [Function.comp, hD, decide_eq_true_eq]
  exact ⟨fun ⟨y, h1, h2⟩ => h2 ▸ h1, fun h => ⟨x, h, rfl⟩⟩
theorem any_yes {α : Type} [DecidableEq α] {D : α → PyData} (hD : ∀ x y, PyData.eqv (D x) (D y) = decide (x = y)) {x : α} {l : List α} (h : x ∈ l) : ((l.map D).any fun z => PyData.eqv z (D x)) = true := by
  rw [any_eqv hD]
  exact decide_eq_true h
theorem any_no {α : Type} [DecidableEq α] {D : α → PyData} (hD : ∀ x y, PyData.eqv (D x) (D y) = decide (x = y)) {x : α} {l : List α} (h : x ∉ l) : ((l.map D).any fun z => PyData.eqv z (D x)) = false := by
  rw [any_eqv hD]
  exact decide_eq_false h
/-! ### sizes of amounts: sums of n drawn ones -/
def SzB (n : Nat) (q : Rat) : Prop := Bits (21 * n - 1) q ∧ 1 ≤ n
theorem szB : PR.Size SzB where
  add := fun {m n x y} h g => ⟨(h.1.add g.1).mono (by have := h.2; have := g.2; omega), by have := h.2; omega⟩
  neg := fun {n x} h => ⟨⟨by show (-x).num.natAbs < _; rw [Rat.neg_num, Int.natAbs_neg]; exact h.1.1, by show (-x).den < _; rw [Rat.neg_den]; exact h.1.2⟩, h.2⟩
  mono := fun {m n x} h l => ⟨h.1.mono (by omega), by have := h.2; omega⟩
theorem SzB.bits {n k : Nat} {q : Rat} (h : SzB n q) (l : 21 * n ≤ k + 1) : Bits k q := h.1.mono (by omega)
abbrev WtB (n : Nat) (r : Row) : Prop := PR.Wt SzB n r
theorem wt_bits {n k : Nat} {r : Row} (h : WtB n r) (l : 21 * n ≤ k + 1) : ∀ m ∈ r, Bits k m.2 := fun m hm => (h.mem szB m hm).bits l
section
variable {P : Program} {w : World} {K : PySem.W.Frag} {mg : Str → Option Value} {base : Heap}
theorem last_at {α : Type} {l : List α} {x : α} (h : l.getLast? = some x) : atI l (-1) = some x := by
  have hn : l ≠ [] := by rintro rfl; simp at h
  have hl : 0 < l.length := List.length_pos_iff.mpr hn
  unfold atI ixN
  rw [if_neg (by decide)]
  rw [List.getLast?_eq_getElem?] at h
  have e : (-1 + (l.length : Int)).toNat = l.length - 1 := by omega
  split
  · simp only [Option.bind_some]
    rw [e]
    exact h
  · omega
theorem cut_init (xs : List V) : cutV xs none (some (-1)) = xs.dropLast := by
  unfold cutV
  rw [HT.sIx_none, List.drop_zero, List.dropLast_eq_take, Nat.sub_zero]
  have e : HT.sIx xs.length xs.length (some (-1)) = (-1 + (xs.length : Int)).toNat := by
    show (if (-1 : Int) < 0 then (-1 + (xs.length : Int)).toNat else min (-1 : Int).toNat xs.length) = _
    rw [if_pos (by decide)]
  rw [e]
  congr 1
  omega
theorem cut_initN {xs : List V} (h : 0 < xs.length) : ¬ (HT.sIx xs.length 0 none = 0 ∧ HT.sIx xs.length xs.length (some (-1)) = xs.length) := by
  rintro ⟨_, e⟩
  have e2 : (if (-1 : Int) < 0 then (-1 + (xs.length : Int)).toNat else min (-1 : Int).toNat xs.length) = xs.length := e
  rw [if_pos (by decide)] at e2
  omega
def okE : Row → Bool → Rat → Prop := fun r _ q => (∀ m ∈ r, Bits 3000 m.2) ∧ Bits 3000 q
/-- row led on -/
def spExt (K : PySem.W.Frag) (ok : Row → Bool → Rat → Prop) : Sp := fun vs H Q _ => ∃ v u p r q, vs = [v, .str (uS u), .ref p] ∧ RwP H v r ∧ IsQ K H p q ∧ PR.Red r ∧ ok r u q ∧ r.length < 1000 ∧
  ∀ v2 H', Same H H' → RwP H' v2 (PR.led r u q) → Q v2 H'
theorem rowP_last {H : Hp} {v : V} {r : Row} {m : Bool × Rat} (h : RwP H v r) (e : r.getLast? = some m) : ∃ a xs t, v = .ref a ∧ H a = some (.tup xs) ∧ Paired (MbP H) xs r ∧ xs.getLast? = some (.ref t) ∧ H t = some (memP m) := by
  obtain ⟨a, xs, rfl, h1, h2⟩ := h
  obtain ⟨x, e1, t, rfl, e2⟩ := prd_last h2 e
  exact ⟨a, xs, t, rfl, h1, h2, e1, e2⟩
/-- Amount(n, d) -/
theorem mk_amt {H : Hp} {n d : Int} {G : Addr → Hp → Prop} {E : XK} (hd : d ≠ 0) (big : d.natAbs < 2 ^ 8000) (k : ∀ p H', Same H H' → H p = none → IsQ K H' p (Rat.divInt n d) → G p H') :
    ∀ x dx, H x = none → H dx = none → dx ≠ x → spAmt K [.ref x, .int n, .int d] (upd (upd H dx (.own x)) x (.ins (cA K) dx [])) (fun v H2 => v = .non ∧ G x H2) E :=
  fun x dx gx gdx _ => ⟨x, dx, _, _, rfl, upd_same, .int _, .int _, .inl ⟨n, d, rfl, rfl, hd, big, rfl, k x _ (made_same gx gdx) gx ⟨dx, upd_same⟩⟩⟩
/-- .. of the parts of an amount -/
theorem mk_amtQ {H : Hp} {q : Rat} {G : Addr → Hp → Prop} {E : XK} {b : Nat} (hq : Bits b q) (hb : b ≤ 8000) (k : ∀ p H', Same H H' → H p = none → IsQ K H' p q → G p H') :
    ∀ x dx, H x = none → H dx = none → dx ≠ x → spAmt K [.ref x, .int q.num, .int q.den] (upd (upd H dx (.own x)) x (.ins (cA K) dx [])) (fun v H2 => v = .non ∧ G x H2) E :=
  mk_amt (den_ne q) (Nat.lt_of_lt_of_le (den_bits hq) (Nat.pow_le_pow_right (by decide) hb)) fun p H' s n z => k p H' s n (by rw [q_self] at z; exact z)
theorem sc_extended : FnScope ["row", "unit", "amount", "last"] ["row", "unit", "amount"] (defScope s_extended) := ⟨rfl, rfl, rfl, by decide +kernel, rfl, by decide +kernel, by decide +kernel⟩
theorem ok0_extended (T : Tx K mg base) : Ok P w K mg base 8 (d_extended.loc K) ["row", "unit", "amount"] (spExt K fun r u _ => ∀ m, r.getLast? = some m → m.1 ≠ u) := by
  refine mk_ok (k := 7) T.f_extended sc_extended (fun _ _ _ _ _ _ us hl => match us, hl with | [_, _, _], _ => rfl) (fun vs H Q E h => ?_) (fun cdv A outer s H vs Q E hr h => ?_)
  · obtain ⟨v, u, p, r, q, rfl, _⟩ := h
    rfl
  · obtain ⟨v, u, p, r, q, rfl, hv, hp, hred, hok, hlen, k⟩ := h
    refine ⟨_, (Evl.pss_cut (ps_if (PW.pt (pw_and (pt_truth (pv 0) (by intro _; rfl)) (pw_and1 (pt_cmpR op_eq (pe_ix ix_tup (pe_ix ix_tup (pv 0) (pe_un un_neg pe_int) (fun _ _ => rfl)) pe_int (fun _ _ => rfl)) (pv 1) (nomark _))))) (pss_cons ps_never
      (pss_one ps_never)) pss_nil)
      (pss_cons (ps_if (pt_cmpR op_eq (ok_prop T.cls_Amount T.pr_Amount_top (ok_Amount_top T) (hr.mono (by decide)) (pv 2)) pe_int (nomark _)) (pss_one (ps_ret (pv 0))) pss_nil)
      (pss_one (ps_ret (pe_tup (StX.pa_star (pv 0) (pa_cons (pe_tup (pa_cons (pv 1) (pa_cons (ok_prop T.cls_Amount T.pr_Amount_top (ok_Amount_top T) (hr.mono (by decide)) (pv 2)) (pa_cons (ok_prop T.cls_Amount T.pr_Amount_bottom (ok_Amount_bottom T) (hr.mono (by decide)) (pv 2)) pa_nil)))) pa_nil))))))), ?_⟩
    obtain ⟨a, xs, rfl, ha, hx⟩ := id hv
    obtain ⟨dp, hp1⟩ := id hp
    refine ⟨fun σ' H' => σ' = ([some (.ref a), some (.str (uS u)), some (.ref p), none] : L2.St) ∧ H' = H, ?_, ?_⟩
    · refine ⟨_, rfl, !xs.isEmpty, .inr (.inl ⟨xs, SqT.of ha, rfl⟩), ?_⟩
      cases e : r.getLast? with
      | none =>
        have e1 : r = [] := List.getLast?_eq_none_iff.mp e
        subst e1
        have e2 := prd_nil hx
        subst e2
        exact iteF (iteF ⟨rfl, rfl⟩)
      | some m =>
        obtain ⟨x, e1, t, rfl, e2⟩ := prd_last hx e
        have ne : xs.isEmpty = false := by
          cases xs with
          | nil => cases e1
          | cons => rfl
        rw [ne]
        refine iteT ⟨_, rfl, _, rfl, a, xs, -1, _, rfl, rfl, SqT.of ha, last_at e1, t, _, 0, _, rfl, rfl, SqT.of e2, rfl, _, rfl, rfl, _, rfl, ?_⟩
        rw [uS_dec, decide_eq_false (hok m e)]
        exact iteF ⟨rfl, rfl⟩
    · rintro σ' H' ⟨rfl, rfl⟩
      refine ⟨_, rfl, p, dp, _, rfl, hp1, p, q, rfl, hp, rfl, _, rfl, ?_⟩
      have nz : (V.int q.num = V.int 0) ↔ q = 0 := ⟨fun z => Rat.num_eq_zero.mp (V.int.inj z), fun z => by rw [z]; rfl⟩
      by_cases c : q = 0
      · rw [decide_eq_true (nz.mpr c)]
        refine iteT ⟨_, rfl, k _ _ (Same.refl _) ?_⟩
        rw [PR.led_app hok, if_pos c]
        exact hv
      · rw [decide_eq_false (fun z => c (nz.mp z))]
        refine iteF ⟨_, rfl, a, xs, rfl, .inl (SqT.of ha), _, rfl, _, rfl, p, dp, _, rfl, hp1, p, q, rfl, hp, _, rfl, p, dp, _, rfl, hp1, p, q, rfl, hp, (by show 3 ≤ sizeLine; decide), fun t ht => ?_⟩
        refine ⟨?_, fun b hbn => ?_⟩
        · have := hx.length
          rw [List.length_append, List.length_singleton, sizeLine_eq]
          omega
        · have s1 : Same H' (upd H' t (.tup [.str (uS u), .int q.num, .int q.den])) := AT.Same.up ht
          have s2 := AT.Same.up (o := .tup (xs ++ [.ref t])) hbn
          refine k _ _ (s1.trans s2) ⟨b, _, rfl, upd_same, ?_⟩
          rw [PR.led_app hok, if_neg c]
          refine prd_app (Paired.mapP hx fun _ _ z => z.up (TT.of (s1.trans s2))) (.cons ⟨t, rfl, s2 _ _ upd_same⟩ .nil)
theorem ok_extended (T : Tx K mg base) : Ok P w K mg base 9 (d_extended.loc K) ["row", "unit", "amount"] (spExt K okE) := by
  refine mk_ok (k := 8) T.f_extended sc_extended (fun _ _ _ _ _ _ us hl => match us, hl with | [_, _, _], _ => rfl) (fun vs H Q E h => ?_) (fun cdv A outer s H vs Q E hr h => ?_)
  · obtain ⟨v, u, p, r, q, rfl, _⟩ := h
    rfl
  · obtain ⟨v, u, p, r, q, rfl, hv, hp, hred, ⟨hb, hq⟩, hlen, k⟩ := h
    refine ⟨_, (Evl.pss_cut (ps_if (PW.pt (pw_and (pt_truth (pv 0) (by intro _; rfl)) (pw_and1 (pt_cmpR op_eq (pe_ix ix_tup (pe_ix ix_tup (pv 0) (pe_un un_neg pe_int) (fun _ _ => rfl)) pe_int (fun _ _ => rfl)) (pv 1) (nomark _))))) (pss_cons (ps_set (i := 3) sc_extended.nd rfl (Or.inl rfl) (pe_op (op_own T.op_Amount_add (ok_Amount_add_ T) (hr.mono (by decide)) (passE rfl rfl rfl rfl)) (ok_make T.mkr_Amount (ok_Amount_init_ T) (hr.mono (by decide)) rfl T.g_Amount (passE rfl rfl rfl rfl) (pa_cons (pe_ix ix_tup (pe_ix ix_tup (pv 0) (pe_un un_neg pe_int) (fun _ _ => rfl)) pe_int (fun _ _ => rfl)) (pa_cons (pe_ix ix_tup (pe_ix ix_tup (pv 0) (pe_un un_neg pe_int) (fun _ _ => rfl)) pe_int (fun _ _ => rfl)) pa_nil))) (pv 2)))
      (pss_one (ps_ret (ok_call (ok0_extended T) (hr.mono (by decide)) rfl T.g_extended passL (pa_cons (pe_slice sl_tup (pv 0) po_none (po_some (pe_un un_neg pe_int))) (pa_cons (pv 1) (pa_cons (pv 3) pa_nil))))))) pss_nil)
      (pss_cons (ps_if (pt_cmpR op_eq (ok_prop T.cls_Amount T.pr_Amount_top (ok_Amount_top T) (hr.mono (by decide)) (pv 2)) pe_int (nomark _)) (pss_one (ps_ret (pv 0))) pss_nil)
      (pss_one (ps_ret (pe_tup (StX.pa_star (pv 0) (pa_cons (pe_tup (pa_cons (pv 1) (pa_cons (ok_prop T.cls_Amount T.pr_Amount_top (ok_Amount_top T) (hr.mono (by decide)) (pv 2)) (pa_cons (ok_prop T.cls_Amount T.pr_Amount_bottom (ok_Amount_bottom T) (hr.mono (by decide)) (pv 2)) pa_nil)))) pa_nil))))))), ?_⟩
    obtain ⟨a, xs, rfl, ha, hx⟩ := id hv
    obtain ⟨dp, hp1⟩ := id hp
    refine ⟨fun σ' H' => σ' = ([some (.ref a), some (.str (uS u)), some (.ref p), none] : L2.St) ∧ H' = H ∧ ∀ m, r.getLast? = some m → m.1 ≠ u, ?_, ?_⟩
    · refine ⟨_, rfl, !xs.isEmpty, .inr (.inl ⟨xs, SqT.of ha, rfl⟩), ?_⟩
      cases e : r.getLast? with
      | none =>
        have e1 : r = [] := List.getLast?_eq_none_iff.mp e
        subst e1
        have e2 := prd_nil hx
        subst e2
        exact iteF (iteF ⟨rfl, rfl, fun m z => nomatch z⟩)
      | some m =>
        obtain ⟨x, e1, t, rfl, e2⟩ := prd_last hx e
        have ne : xs.isEmpty = false := by
          cases xs with
          | nil => cases e1
          | cons => rfl
        rw [ne]
        refine iteT ⟨_, rfl, _, rfl, a, xs, -1, _, rfl, rfl, SqT.of ha, last_at e1, t, _, 0, _, rfl, rfl, SqT.of e2, rfl, _, rfl, rfl, _, rfl, ?_⟩
        rw [uS_dec]
        by_cases c : m.1 = u
        · rw [decide_eq_true c]
          have bm := hb m (List.mem_of_getLast? e)
          refine iteT ⟨_, rfl, _, rfl, a, xs, -1, _, rfl, rfl, SqT.of ha, last_at e1, t, _, 1, _, rfl, rfl, SqT.of e2, rfl, _, rfl, _, rfl, a, xs, -1, _, rfl, rfl, SqT.of ha, last_at e1, t, _, 2, _, rfl, rfl, SqT.of e2, rfl, mk_amtQ bm (by decide) fun x H1 s1 _ hm => ?_⟩
          have hp2 := hp.up s1
          obtain ⟨dx2, hm2⟩ := id hm
          obtain ⟨dp2, hp3⟩ := id hp2
          refine ⟨_, rfl, x, dx2, _, _, rfl, hm2, T.ins_Amount hp3, .inl rfl, x, .ref p, m.2, rfl, hm, bm, .amt hp2, .inl ⟨q, .obj hp2, hq, fun y H2 s2 hy hs => ?_⟩⟩
          have s12 := s1.trans s2
          have hlx := hx.length
          have hpos : 0 < xs.length := by
            cases xs with
            | nil => cases e1
            | cons => simp
          refine ⟨_, rfl, _, rfl, _, rfl, a, xs, rfl, SqT.of (s12 _ _ ha), ?_, fun b hbn => ?_⟩
          · exact cut_initN hpos
          · have s3 := AT.Same.up (o := .tup (cutV xs none (some (-1)))) hbn
            have s123 := s12.trans s3
            refine ⟨_, rfl, _, rfl, .ref b, u, y, r.dropLast, m.2 + q, rfl, ⟨b, _, rfl, upd_same, ?_⟩, hs.up s3, PR.red_dropLast hred, fun m2 z => c ▸ PR.red_last2 hred e z, ?_, fun v2 H4 s4 hv2 => ?_⟩
            · have z := Paired.mapP (prd_take hx (r.length - 1)) fun _ _ z => z.up (TT.of s123)
              rw [← List.dropLast_eq_take, ← hlx, ← List.dropLast_eq_take, ← cut_init] at z
              exact z
            · rw [List.length_dropLast]; omega
            · refine k _ _ (s123.trans s4) ?_
              rw [PR.led_same hred e c]
              exact hv2
        · rw [decide_eq_false c]
          exact iteF ⟨rfl, rfl, fun m2 z => by cases z; exact c⟩
    · rintro σ' H' ⟨rfl, rfl, hok⟩
      refine ⟨_, rfl, p, dp, _, rfl, hp1, p, q, rfl, hp, rfl, _, rfl, ?_⟩
      have nz : (V.int q.num = V.int 0) ↔ q = 0 := ⟨fun z => Rat.num_eq_zero.mp (V.int.inj z), fun z => by rw [z]; rfl⟩
      by_cases c : q = 0
      · rw [decide_eq_true (nz.mpr c)]
        refine iteT ⟨_, rfl, k _ _ (Same.refl _) ?_⟩
        rw [PR.led_app hok, if_pos c]
        exact hv
      · rw [decide_eq_false (fun z => c (nz.mp z))]
        refine iteF ⟨_, rfl, a, xs, rfl, .inl (SqT.of ha), _, rfl, _, rfl, p, dp, _, rfl, hp1, p, q, rfl, hp, _, rfl, p, dp, _, rfl, hp1, p, q, rfl, hp, (by show 3 ≤ sizeLine; decide), fun t ht => ?_⟩
        refine ⟨?_, fun b hbn => ?_⟩
        · have := hx.length
          rw [List.length_append, List.length_singleton, sizeLine_eq]
          omega
        · have s1 : Same H' (upd H' t (.tup [.str (uS u), .int q.num, .int q.den])) := AT.Same.up ht
          have s2 := AT.Same.up (o := .tup (xs ++ [.ref t])) hbn
          refine k _ _ (s1.trans s2) ⟨b, _, rfl, upd_same, ?_⟩
          rw [PR.led_app hok, if_neg c]
          refine prd_app (Paired.mapP hx fun _ _ z => z.up (TT.of (s1.trans s2))) (.cons ⟨t, rfl, s2 _ _ upd_same⟩ .nil)
/-! ### the row that leads back; a row behind another one -/
theorem neg_num (q : Rat) : -(q.num) = (-q).num := (Rat.neg_num q).symm
theorem neg_den (q : Rat) : q.den = (-q).den := (Rat.neg_den q).symm
theorem prd_new {H H' : Hp} {xs : List V} {r : Row} {v : V} {m : Bool × Rat} (h : Paired (MbP H) xs r) (s : TT H H') (g : MbP H' v m) : Paired (MbP H') (xs ++ [v]) (r ++ [m]) := prd_app (Paired.mapP h fun _ _ z => z.up s) (.cons g .nil)
def spOpp : Sp := fun vs H Q _ => ∃ v r, vs = [v] ∧ RwP H v r ∧ r.length < 1000 ∧ ∀ v2 H', Same H H' → RwP H' v2 (PR.inv r) → Q v2 H'
theorem sc_opposite : FnScope ["row", "unit", "top", "bottom"] ["row"] (defScope s_opposite) := ⟨rfl, rfl, rfl, by decide +kernel, rfl, by decide +kernel, by decide +kernel⟩
theorem ok_opposite (T : Tx K mg base) : Ok P w K mg base 1 (d_opposite.loc K) ["row"] spOpp := by
  refine mk_ok (k := 0) T.f_opposite sc_opposite (fun _ _ _ _ _ _ us hl => match us, hl with | [_], _ => rfl) (fun vs H Q E h => ?_) (fun cdv A outer s H vs Q E hr h => ?_)
  · obtain ⟨v, r, rfl, _⟩ := h
    rfl
  · obtain ⟨v, r, rfl, ⟨a, xs, rfl, ha, hx⟩, hlen, k⟩ := h
    refine ⟨_, (pss_one (ps_ret (pe_callTy call_tuple_of (by rfl) T.b_tuple (by decide +kernel) (pa_cons (pe_lc (own := [("unit", 1), ("top", 2), ("bottom", 3)]) (g := (gTup K 3 (gCons (gName 1) (gCons (gName 2) (gCons (gName 3) gNil))))) (tt := tYes) (by rfl) sc_opposite.nd (RT.pi_revA (by rfl) T.b_reversed (pv 0)) (blkOk_by (own := [("unit", 1), ("top", 2), ("bottom", 3)]) (N := ["row", "unit", "top", "bottom"]) (sc := defScope s_opposite) (by decide +kernel)) (fun _ _ _ _ _ => (pg_tup rfl (pgs_cons (pg_name (i := 1) sc_opposite.nd rfl (Or.inl rfl)) (pgs_cons (pg_name (i := 2) sc_opposite.nd rfl (Or.inl rfl)) (pgs_cons (pg_name (i := 3) sc_opposite.nd rfl (Or.inl rfl)) pgs_nil))))) (fun _ _ _ _ _ => pts_nil) (fun _ _ _ _ _ => (pe_tup (pa_cons (pv 1) (pa_cons (pe_un un_neg (pv 2)) (pa_cons (pv 3) pa_nil)))))) pa_nil)))), ?_⟩
    have hl := hx.length
    have hsz : sizeLine = 16777216 := sizeLine_eq
    refine ⟨_, rfl, a, xs, rfl, .inr ⟨SqT.of ha, fun D hD => ?_⟩⟩
    refine lc_it walk_revT (fun i H' => Same H H' ∧ ∃ acc, H' D = some (.lst acc) ∧ Paired (MbP H') acc ((PR.inv r).take i)) ⟨AT.Same.up hD, [], upd_same, .nil⟩ (fun i H' _ hP => SqT.of (hP.1 _ _ ha)) (fun i x H' H2 hi hP hY => ?_) (fun H' hP => ?_)
    · obtain ⟨sm, acc, hacc, hp⟩ := hP
      obtain ⟨rfl, hxi⟩ := hY
      obtain ⟨m, hm, t, rfl, ht⟩ := prd_getL hx hxi
      rw [hl] at hm hi
      have hlu := hp.length
      rw [List.length_take] at hlu
      have ht' := sm _ _ ht
      refine ⟨t, _, rfl, SqT.of ht', rfl, _, _, rfl, _, _, rfl, _, _, rfl, rfl, rfl, ?_⟩
      dsimp only [tYes]
      refine iteT ⟨_, rfl, _, rfl, _, rfl, _, rfl, (by show 3 ≤ sizeLine; decide), fun t2 gt2 => ?_⟩
      have sT := AT.Same.up (o := .tup [.str (uS m.1), .int (-m.2.num), .int m.2.den]) gt2
      refine ⟨acc, sT _ _ hacc, (by omega), AT.Same.new (sm.trans sT) hD, acc ++ [.ref t2], upd_same, ?_⟩
      rw [List.take_add_one, PR.inv_get hi hm]
      have tt2 : TT (upd H2 t2 (.tup [.str (uS m.1), .int (-m.2.num), .int m.2.den])) (upd (upd H2 t2 (.tup [.str (uS m.1), .int (-m.2.num), .int m.2.den])) D (.lst (acc ++ [.ref t2]))) := TT.up (sT _ _ hacc) (fun _ z => nomatch z)
      refine prd_new hp ((TT.of sT).trans tt2) ⟨t2, rfl, tt2 _ _ ?_⟩
      rw [upd_same, neg_num, neg_den]
    · obtain ⟨sm, acc, hacc, hp⟩ := hP
      rw [hl, ← PR.inv_len, List.take_length] at hp
      refine ⟨D, acc, rfl, .inl ⟨SqL.of hacc, fun t2 gt2 => ?_⟩⟩
      have sT := AT.Same.up (o := .tup acc) gt2
      exact k _ _ (sm.trans sT) ⟨t2, acc, rfl, upd_same, Paired.mapP hp fun _ _ z => z.up (TT.of sT)⟩
def spJoin : Sp := fun vs H Q _ => ∃ v w r s n, vs = [v, w] ∧ RwP H v r ∧ RwP H w s ∧ PR.Red r ∧ WtB n r ∧ WtB n s ∧ n ≤ 70 ∧ r.length + s.length < 1000 ∧ ∀ v2 H', Same H H' → RwP H' v2 (PR.mul r s) → Q v2 H'
theorem sc_joined : FnScope ["row", "more", "unit", "top", "bottom"] ["row", "more"] (defScope s_joined) := ⟨rfl, rfl, rfl, by decide +kernel, rfl, by decide +kernel, by decide +kernel⟩
theorem ok_joined (T : Tx K mg base) : Ok P w K mg base 10 (d_joined.loc K) ["row", "more"] spJoin := by
  refine mk_ok (k := 9) T.f_joined sc_joined (fun _ _ _ _ _ _ us hl => match us, hl with | [_, _], _ => rfl) (fun vs H Q E h => ?_) (fun cdv A outer s H vs Q E hr h => ?_)
  · obtain ⟨v, w, r, s, n, rfl, _⟩ := h
    rfl
  · obtain ⟨v, w, r, ss, n, rfl, hv, ⟨a, xs, rfl, ha, hx⟩, hred, w1, w2, hn, hlen, k⟩ := h
    refine ⟨_, (pss_cons (ps_for (passes_of rfl) rfl (pi_tup (pv 1)) (pg_tup rfl (pgs_cons (pg_name (i := 2) sc_joined.nd rfl (Or.inl rfl)) (pgs_cons (pg_name (i := 3) sc_joined.nd rfl (Or.inl rfl)) (pgs_cons (pg_name (i := 4) sc_joined.nd rfl (Or.inl rfl)) pgs_nil)))) (pss_one (ps_set (i := 0) sc_joined.nd rfl (Or.inl rfl) (ok_call (ok_extended T) (hr.mono (by decide)) rfl T.g_extended passL (pa_cons (pv 0) (pa_cons (pv 2) (pa_cons (ok_make T.mkr_Amount (ok_Amount_init_ T) (hr.mono (by decide)) rfl T.g_Amount (passE rfl rfl rfl rfl) (pa_cons (pv 3) (pa_cons (pv 4) pa_nil))) pa_nil)))))))
      (pss_one (ps_ret (pv 0)))), ?_⟩
    have hl := hx.length
    refine ⟨_, rfl, a, rfl, ⟨_, SqT.of ha⟩, ?_⟩
    refine for_it (walk_tup (xs := xs)) (fun i σ' H' => Same H H' ∧ ∃ v' o3 o4 o5, σ' = ([some v', some (.ref a), o3, o4, o5] : L2.St) ∧ RwP H' v' (PR.mul r (ss.take i))) ⟨Same.refl _, v, _, _, _, rfl, hv⟩ (fun i σ' H' _ hP => SqT.of (hP.1 _ _ ha)) (fun i x σ' H' H2 hi hP hY => ?_) (fun σ' H' hP => ?_)
    · obtain ⟨sm, v', o3, o4, o5, rfl, hv'⟩ := hP
      obtain ⟨rfl, hxi⟩ := hY
      obtain ⟨m, hm, t, rfl, ht⟩ := prd_getL hx hxi
      have ht' := sm _ _ ht
      have wm : Bits 3000 m.2 := wt_bits w2 (by omega) m (List.mem_of_getElem? hm)
      have wr : WtB (n + n) (PR.mul r (ss.take i)) := w1.mul szB (w2.take i)
      refine ⟨t, _, rfl, SqT.of ht', rfl, _, _, rfl, _, _, rfl, _, _, rfl, rfl, ?_⟩
      refine ⟨_, rfl, _, rfl, _, rfl, _, rfl, mk_amtQ wm (by decide) fun p H3 s3 _ hp => ?_⟩
      refine ⟨v', m.1, p, _, m.2, rfl, hv'.up (TT.of s3), hp, PR.red_mul hred _, ⟨wt_bits wr (by omega), wm⟩, ?_, fun v2 H4 s4 hv2 => ?_⟩
      · have := PR.mul_len (ss.take i) r
        rw [List.length_take] at this
        omega
      · refine ⟨sm.trans (s3.trans s4), v2, _, _, _, rfl, ?_⟩
        rw [List.take_add_one, hm]
        show RwP H4 v2 (PR.mul r (ss.take i ++ [m]))
        rw [PR.mul_snoc]
        exact hv2
    · obtain ⟨sm, v', o3, o4, o5, rfl, hv'⟩ := hP
      rw [hl, List.take_length] at hv'
      exact ⟨_, rfl, k _ _ sm hv'⟩
end
end K34

set_option maxHeartbeats 4000000
namespace K34
open PySem PySem.Spec PyProof.Rows L2 AT
theorem room65 {k : Nat} {A : Around} (r : Room k A) : A.units + 65 < cLine := by have := r.un; omega
abbrev cS (K : PySem.W.Frag) : Addr := He.ga K "Sheet"
abbrev Cue := PR.Cue Str Bool
/-! ### all but some objects stay -/
def Sm (S : List Addr) (H H' : Hp) : Prop := ∀ b o, b ∉ S → H b = some o → H' b = some o
theorem Sm.refl (S : List Addr) (H : Hp) : Sm S H H := fun _ _ _ e => e
theorem Sm.trans {S : List Addr} {H H1 H2 : Hp} (a : Sm S H H1) (b : Sm S H1 H2) : Sm S H H2 := fun x o n e => b x o n (a x o n e)
theorem Sm.of {S : List Addr} {H H' : Hp} (s : Same H H') : Sm S H H' := fun b o _ e => s b o e
theorem Sm.up {S : List Addr} {H : Hp} {p : Addr} {o : HO} (h : p ∈ S) : Sm S H (upd H p o) := fun b u n e => by
  rw [upd_ne (fun z => n (by rw [z]; exact h))]
  exact e
theorem Sm.tt {S : List Addr} {H H' : Hp} (s : Sm S H H') (h : ∀ a ∈ S, ∀ xs, H a ≠ some (.tup xs)) : TT H H' := fun b xs e => s b _ (fun z => h b z xs e) e
/-! ### a dict's entries, one by one -/
def KvC (K : PySem.W.Frag) (H : Hp) (kv : Key × V) (c : Cue) : Prop := kv.1 = Sum.inr c.1 ∧ ∃ t p, kv.2 = .ref t ∧ H t = some (.tup [.str c.2.1, .str (uS c.2.2.1), .ref p]) ∧ IsQ K H p c.2.2.2
def KvR (R : Hp → V → Row → Prop) (H : Hp) (kv : Key × V) (z : Str × Row) : Prop := kv.1 = Sum.inr z.1 ∧ R H kv.2 z.2
theorem kv_in {α : Type} {F : Key × V → α → Prop} {nm : α → Str} (hF : ∀ kv x, F kv x → kv.1 = Sum.inr (nm x)) : ∀ {kvs : List (Key × V)} {l : List α}, Paired F kvs l → ∀ n : Str, (valV kvs (Sum.inr n)).isSome = decide (n ∈ l.map nm)
  | _, _, .nil, n => rfl
  | _, _, .cons (a := kv) (b := x) h t, n => by
    have e := hF _ _ h
    by_cases c : nm x = n
    · rw [valV_pos (by rw [e, c]), Option.isSome_some, decide_eq_true (by simp [c])]
    · rw [valV_neg (by rw [e]; exact fun z => c (Sum.inr.inj z)), kv_in hF t n]
      congr 1
      rw [List.map_cons, List.mem_cons]
      exact propext ⟨.inr, fun z => z.elim (fun q => absurd q.symm c) id⟩
theorem kv_val {R : Hp → V → Row → Prop} {H : Hp} : ∀ {kvs : List (Key × V)} {l : List (Str × Row)}, Paired (KvR R H) kvs l → ∀ {n : Str}, n ∈ l.map (·.1) → ∃ v, valV kvs (Sum.inr n) = some v ∧ R H v (PR.rowOf l n)
  | _, _, .nil, n, h => by cases h
  | _, _, .cons (a := kv) (b := x) h t, n, hn => by
    obtain ⟨e, hr⟩ := h
    by_cases c : x.1 = n
    · refine ⟨kv.2, valV_pos (by rw [e, c]), ?_⟩
      unfold PR.rowOf
      rw [List.find?_cons_of_pos (by simpa using c)]
      exact hr
    · rw [List.map_cons, List.mem_cons] at hn
      obtain ⟨v, h1, h2⟩ := kv_val t (hn.resolve_left fun z => c z.symm)
      refine ⟨v, by rw [valV_neg (by rw [e]; exact fun z => c (Sum.inr.inj z))]; exact h1, ?_⟩
      unfold PR.rowOf at h2 ⊢
      rw [List.find?_cons_of_neg (by simpa using c)]
      exact h2
theorem KvR.up {H H' : Hp} {kv : Key × V} {z : Str × Row} (h : KvR RwP H kv z) (s : TT H H') : KvR RwP H' kv z := ⟨h.1, h.2.up s⟩
/-- a sheet that is being made: its cues and rows -/
structure Bld (K : PySem.W.Frag) (H : Hp) (s dx dc dr : Addr) (fs : List (Str × V)) (cs : List Cue) : Prop where
  ins : H s = some (.ins (cS K) dx (("own_cues", .ref dc) :: ("own_rows", .ref dr) :: fs))
  ne : dc ≠ dr
  cues : ∃ kvs, Rd H dc (.dK kvs) ∧ Paired (KvC K H) kvs cs
  rows : ∃ kvs, H dr = some (.dK kvs) ∧ Paired (KvR RwP H) kvs (PR.rowsF ("start" : Str) cs)
theorem Rd.up {H H' : Hp} {a : Addr} {u : HO} (h : Rd H a u) (s : H a = none ∨ H' a = H a) : Rd H' a u := by
  rcases s with s | s
  · rcases h with h | ⟨o, h⟩
    · rw [h] at s; cases s
    · rw [h] at s; cases s
  · rcases h with h | ⟨o, h⟩
    · exact .inl (s.trans h)
    · exact .inr ⟨o, s.trans h⟩
theorem Rd.same {H H' : Hp} {a : Addr} {u : HO} (h : Rd H a u) (s : Same H H') : Rd H' a u := by
  rcases h with h | ⟨o, h⟩
  · exact .inl (s _ _ h)
  · exact .inr ⟨o, s _ _ h⟩
theorem KvC.same {K : PySem.W.Frag} {H H' : Hp} {kv : Key × V} {c : Cue} (h : KvC K H kv c) (s : Same H H') : KvC K H' kv c := by
  obtain ⟨h1, t, p, h2, h3, h4⟩ := h
  exact ⟨h1, t, p, h2, s _ _ h3, h4.up s⟩
theorem Bld.same {K : PySem.W.Frag} {H H' : Hp} {s dx dc dr : Addr} {fs : List (Str × V)} {cs : List Cue} (h : Bld K H s dx dc dr fs cs) (sm : Same H H') : Bld K H' s dx dc dr fs cs := by
  obtain ⟨h1, h2, ⟨k1, h3, h4⟩, k2, h5, h6⟩ := h
  exact ⟨sm _ _ h1, h2, ⟨k1, Rd.same h3 sm, Paired.mapP h4 fun _ _ z => z.same sm⟩, k2, sm _ _ h5, Paired.mapP h6 fun _ _ z => z.up (TT.of sm)⟩
section
variable {P : Program} {w : World} {K : PySem.W.Frag} {mg : Str → Option Value} {base : Heap}
theorem sq_any {H : Hp} {v : V} {xs : List V} (h : Sq H v xs) : AnyV K H v := by
  obtain ⟨a, rfl, h | h⟩ := h
  · exact .lst h
  · exact .tup h
theorem name_len {z : Str} (h : isNameS z = true) : 0 < z.length ∧ z.length ≤ 8 := by
  unfold isNameS at h
  simp only [Bool.and_eq_true, decide_eq_true_eq] at h
  omega
def DkS (S : List Addr) (H : Hp) : Prop := ∀ a ∈ S, ∃ kvs, H a = some (.dK kvs)
theorem Sm.ttD {S : List Addr} {H H' : Hp} (s : Sm S H H') (d : DkS S H) : TT H H' := s.tt fun a ha xs e => by
  obtain ⟨kvs, z⟩ := d a ha
  rw [z] at e
  cases e
theorem sheet_nd {S : List Addr} {H : Hp} (d : DkS S H) {b C dx : Addr} {fs : List (Str × V)} (e : H b = some (.ins C dx fs)) : b ∉ S := fun hb => by
  obtain ⟨kvs, z⟩ := d b hb
  rw [z] at e
  cases e
theorem IsQ.sm {S : List Addr} {H H' : Hp} {p : Addr} {q : Rat} (h : IsQ K H p q) (s : Sm S H H') (d : DkS S H) : IsQ K H' p q := h.imp fun _ e => s _ _ (sheet_nd d e) e
theorem Qv.sm {S : List Addr} {H H' : Hp} {v : V} {q : Rat} (h : Qv K H v q) (s : Sm S H H') (d : DkS S H) : Qv K H' v q := by
  cases h with
  | obj h => exact .obj (h.sm s d)
  | int i => exact .int i
theorem KvC.sm {S : List Addr} {H H' : Hp} {kv : Key × V} {c : Cue} (h : KvC K H kv c) (s : Sm S H H') (d : DkS S H) : KvC K H' kv c := by
  obtain ⟨h1, t, p, h2, h3, h4⟩ := h
  exact ⟨h1, t, p, h2, s.ttD d _ _ h3, h4.sm s d⟩
def inRw (l : List (Str × Row)) : V → Bool
  | .str z => decide (z ∈ l.map (·.1))
  | _ => false
def spCon (K : PySem.W.Frag) : Sp := fun vs H Q _ => ∃ s dx fs dr kvs l v, vs = [.ref s, v] ∧ H s = some (.ins (cS K) dx fs) ∧ fs.lookup ("own_rows" : Str) = some (.ref dr) ∧ Rd H dr (.dK kvs) ∧ Paired (KvR RwP H) kvs l ∧ AnyV K H v ∧ Q (.bl (inRw l v)) H
theorem sc_Sheet_contains_ : FnScope ["self", "value"] ["self", "value"] (defScope s_Sheet_contains_) := ⟨rfl, rfl, rfl, by decide +kernel, rfl, by decide +kernel, by decide +kernel⟩
theorem ok_Sheet_contains_ (T : Tx K mg base) : Ok P w K mg base 1 (d_Sheet_contains_.loc K) ["self", "value"] (spCon K) := by
  refine mk_ok (k := 0) T.f_Sheet_contains_ sc_Sheet_contains_ (fun _ _ _ _ _ _ us hl => match us, hl with | [_, _], _ => rfl) (fun vs H Q E h => ?_) (fun cdv A outer s H vs Q E hr h => ?_)
  · obtain ⟨s, dx, fs, dr, kvs, l, v, rfl, _⟩ := h
    rfl
  · obtain ⟨s, dx, fs, dr, kvs, l, v, rfl, hs, hf, hd, hp, hv, k⟩ := h
    refine ⟨_, (pss_one (ps_ret (pe_and (pe_callB call_isi (by rfl) T.b_isinstance (by decide +kernel) (pa_cons (pv 1) (pa_cons (pe_bltn (v := .ty "str") rfl T.b_str (by decide +kernel) rfl) pa_nil))) (pe_one (pe_cmp (pc_din (by exact hu_of hr) (pv 1) (pe_fld (pv 0) rfl)) rfl))))), ?_⟩
    obtain ⟨t1, y1, q1⟩ := isi_str T hv
    refine ⟨_, rfl, _, _, _, _, _, rfl, .ty _, y1, q1, _, rfl, ?_⟩
    cases hv with
    | str z =>
      refine ⟨_, rfl, _, rfl, s, _, dx, _, _, rfl, hs, T.cls_Sheet, T.no_Sheet_own_rows, hf, dr, _, rfl, .inl ⟨kvs, Sum.inr z, hd, rfl, rfl⟩, ?_⟩
      rw [kv_in (fun kv x q => q.1) hp z]
      exact k
    | _ => exact k
/-- a cue as it is handed in -/
def ItC (K : PySem.W.Frag) (H : Hp) (v : V) (c : Cue) : Prop := ∃ av, Sq H v [.str c.1, .str c.2.1, .str (uS c.2.2.1), av] ∧ Qv K H av c.2.2.2
abbrev nmS (cs : List Cue) : List Str := ("start" : Str) :: cs.map (·.1)
/-- a cue that is refused as x, behind the cues cs -/
def BadC (K : PySem.W.Frag) (H : Hp) (cs : List Cue) (y : V) (c f : Str) (x : V) : Prop :=
  (AnyV K H y ∧ (∀ ys, Sq H y ys → ys.length ≠ 4) ∧ c = "InvalidCue" ∧ f = "value" ∧ x = y) ∨
  ∃ n p u a, Sq H y [n, p, u, a] ∧ AnyV K H n ∧ AnyV K H p ∧ AnyV K H u ∧ AnyV K H a ∧ (∀ z, n = .str z → z.length < sizeLine) ∧
   ((nameV n = false ∧ c = "InvalidName" ∧ f = "value" ∧ x = n) ∨ ∃ z, n = .str z ∧ isNameS z = true ∧
     ((z ∈ nmS cs ∧ c = "Duplicate" ∧ f = "label" ∧ x = n) ∨ (z ∉ nmS cs ∧
       (((∀ q, p = .str q → q ∉ nmS cs) ∧ c = "UnknownCue" ∧ f = "label" ∧ x = p) ∨ ∃ q, p = .str q ∧ q ∈ nmS cs ∧
         ((unitV u = false ∧ c = "InvalidUnit" ∧ f = "value" ∧ x = u) ∨ ∃ ub, u = .str (uS ub) ∧ (¬ ∃ q, Qv K H a q) ∧ c = "InvalidAmount" ∧ f = "value" ∧ x = a)))))
theorem noSqL_up {H H' : Hp} {v : V} {m : Nat} (hv : AnyV K H v) (h : ∀ ys, Sq H v ys → ys.length ≠ m) (s : Same H H') : ∀ ys, Sq H' v ys → ys.length ≠ m := by
  rintro xs ⟨a, e, z⟩
  cases hv with
  | lst e1 => cases e; rw [s _ _ e1] at z; rcases z with z | z <;> cases z; exact h _ ⟨_, rfl, .inl e1⟩
  | tup e1 => cases e; rw [s _ _ e1] at z; rcases z with z | z <;> cases z; exact h _ ⟨_, rfl, .inr e1⟩
  | dct e1 => cases e; rw [s _ _ e1] at z; rcases z with z | z <;> cases z
  | amt e1 => obtain ⟨_, e1⟩ := e1; cases e; rw [s _ _ e1] at z; rcases z with z | z <;> cases z
  | oth o e1 => cases e; rw [s _ _ e1] at z; rcases z with z | z <;> cases z
  | _ => cases e
theorem noQv_up {H H' : Hp} {v : V} (hv : AnyV K H v) (h : ¬ ∃ q, Qv K H v q) (s : Same H H') : ¬ ∃ q, Qv K H' v q := by
  rintro ⟨q, z⟩
  cases z with
  | int i => exact h ⟨_, .int i⟩
  | obj z =>
    obtain ⟨dx, z⟩ := z
    cases hv with
    | lst e1 => rw [s _ _ e1] at z; cases z
    | tup e1 => rw [s _ _ e1] at z; cases z
    | dct e1 => rw [s _ _ e1] at z; cases z
    | amt e1 =>
      obtain ⟨d2, e1⟩ := e1
      exact h ⟨_, .obj ⟨_, e1⟩⟩
    | oth o e1 =>
      rw [s _ _ e1] at z
      cases z
      exact o.ne rfl
theorem BadC.up {H H' : Hp} {cs : List Cue} {y x : V} {c f : Str} (h : BadC K H cs y c f x) (s : Same H H') : BadC K H' cs y c f x := by
  rcases h with ⟨h1, h2, h3⟩ | ⟨n, p, u, a, hq, hn, hp, hu, ha, hl, h⟩
  · exact .inl ⟨h1.up s, noSqL_up h1 h2 s, h3⟩
  · refine .inr ⟨n, p, u, a, hq.up s, hn.up s, hp.up s, hu.up s, ha.up s, hl, ?_⟩
    rcases h with h | ⟨z, e, hz, h⟩
    · exact .inl h
    refine .inr ⟨z, e, hz, ?_⟩
    rcases h with h | ⟨h0, h⟩
    · exact .inl h
    refine .inr ⟨h0, ?_⟩
    rcases h with h | ⟨q, e2, h1, h⟩
    · exact .inl h
    refine .inr ⟨q, e2, h1, ?_⟩
    rcases h with h | ⟨ub, e3, h2, h⟩
    · exact .inl h
    exact .inr ⟨ub, e3, noQv_up ha h2 s, h⟩
def spTakeIn (K : PySem.W.Frag) : Sp := fun vs H Q E => ∃ s dx dc dr cs v, vs = [.ref s, v] ∧ Bld K H s dx dc dr [] cs ∧ (∃ kvs, H dc = some (.dK kvs)) ∧ (∃ kvs, H dr = some (.dK kvs)) ∧
  ((∃ c f x, BadC K H cs v c f x ∧ Rf K c f x H E) ∨
  ∃ c, ItC K H v c ∧ isNameS c.1 = true ∧ c.1 ∉ ("start" : Str) :: cs.map (·.1) ∧ c.2.1 ∈ ("start" : Str) :: cs.map (·.1) ∧
  (∀ x ∈ cs, SzB 1 x.2.2.2) ∧ SzB 1 c.2.2.2 ∧ cs.length < 100 ∧ ∀ H', Sm [dc, dr] H H' → Bld K H' s dx dc dr [] (cs ++ [c]) → (∃ kvs, H' dc = some (.dK kvs)) → (∃ kvs, H' dr = some (.dK kvs)) → Q .non H')
theorem sc_Sheet_take_in : FnScope ["self", "item", "name", "parent", "unit", "amount"] ["self", "item"] (defScope s_Sheet_take_in) := ⟨rfl, rfl, rfl, by decide +kernel, rfl, by decide +kernel, by decide +kernel⟩
theorem ok_Sheet_take_in (T : Tx K mg base) : Ok P w K mg base 10 (d_Sheet_take_in.loc K) ["self", "item"] (spTakeIn K) := by
  refine mk_ok (k := 9) T.f_Sheet_take_in sc_Sheet_take_in (fun _ _ _ _ _ _ us hl => match us, hl with | [_, _], _ => rfl) (fun vs H Q E h => ?_) (fun cdv A outer s H vs Q E hr h => ?_)
  · obtain ⟨s, dx, dc, dr, cs, v, rfl, _⟩ := h
    rfl
  · obtain ⟨s, dx, dc, dr, cs, v, rfl, hb, hdc, hdr, hc⟩ := h
    refine ⟨_, (pss_cons (ps_if (pt_not (pt_val (ok_call (ok_is_row T) (hr.mono (by decide)) rfl T.g_is_row passL (pa_cons (pv 1) (pa_cons pe_int pa_nil))))) (pss_one (ps_rs rfl (mx_InvalidCue T (hr.mono (by decide))) (takes_of rfl rfl rfl rfl) rfl (pv 1))) pss_nil)
      (Evl.pss_cut (ps_asg (pv 1) (pg_or (pg_tup rfl (pgs_cons (pg_name (i := 2) sc_Sheet_take_in.nd rfl (Or.inl rfl)) (pgs_cons (pg_name (i := 3) sc_Sheet_take_in.nd rfl (Or.inl rfl)) (pgs_cons (pg_name (i := 4) sc_Sheet_take_in.nd rfl (Or.inl rfl)) (pgs_cons (pg_name (i := 5) sc_Sheet_take_in.nd rfl (Or.inl rfl)) pgs_nil))))) (pg_lst rfl (pgs_cons (pg_name (i := 2) sc_Sheet_take_in.nd rfl (Or.inl rfl)) (pgs_cons (pg_name (i := 3) sc_Sheet_take_in.nd rfl (Or.inl rfl)) (pgs_cons (pg_name (i := 4) sc_Sheet_take_in.nd rfl (Or.inl rfl)) (pgs_cons (pg_name (i := 5) sc_Sheet_take_in.nd rfl (Or.inl rfl)) pgs_nil)))))))
      (pss_cons (ps_if (pt_not (pt_val (ok_call (ok_is_name T) (hr.mono (by decide)) rfl T.g_is_name passL (pa_cons (pv 2) pa_nil)))) (pss_one (ps_rs rfl (mx_InvalidName T (hr.mono (by decide))) (takes_of rfl rfl rfl rfl) rfl (pv 2))) pss_nil)
      (pss_cons (ps_if (pt_cmp (pc_din (by exact hu_of hr) (pv 2) (pe_fld (pv 0) rfl))) (pss_one (ps_rs rfl (mx_Duplicate T (hr.mono (by decide))) (takes_of rfl rfl rfl rfl) rfl (pv 2))) pss_nil)
      (pss_cons (ps_if (pt_cmpR (op_notInO T.m_Sheet_contains_ (ok_Sheet_contains_ T) (hr.mono (by decide)) passL) (pv 3) (pv 0) (by rfl)) (pss_one (ps_rsG rfl (mx_UnknownCue T (hr.mono (by decide))) (takes_of rfl rfl rfl rfl) rfl (pv 3))) pss_nil)
      (pss_cons (ps_expr (ok_call (ok_need_unit T) (hr.mono (by decide)) rfl T.g_need_unit (passE rfl rfl rfl rfl) (pa_cons (pv 4) pa_nil)))
      (pss_cons (ps_if (pt_not (pt_val (ok_call (ok_is_amount T) (hr.mono (by decide)) rfl T.g_is_amount passL (pa_cons (pv 5) pa_nil)))) (pss_one (ps_rs rfl (mx_InvalidAmount T (hr.mono (by decide))) (takes_of rfl rfl rfl rfl) rfl (pv 5))) pss_nil)
      (pss_cons (ps_dput (by exact hu_of hr) (pe_fld (pv 0) rfl) (pv 2) (pe_tup (pa_cons (pv 3) (pa_cons (pv 4) (pa_cons (ok_call (ok_amount_from T) (hr.mono (by decide)) rfl T.g_amount_from (passE rfl rfl rfl rfl) (pa_cons (pv 5) pa_nil)) pa_nil)))) rfl)
      (pss_one (ps_dput (by exact hu_of hr) (pe_fld (pv 0) rfl) (pv 2) (ok_call (ok_extended T) (hr.mono (by decide)) rfl T.g_extended passL (pa_cons (pe_dget (by exact hu_of hr) (pe_fld (pv 0) rfl) (pv 3) (fun _ _ => rfl)) (pa_cons (pv 4) (pa_cons (ok_call (ok_amount_from T) (hr.mono (by decide)) rfl T.g_amount_from (passE rfl rfl rfl rfl) (pa_cons (pv 5) pa_nil)) pa_nil)))) rfl)))))))))), ?_⟩
    rcases hc with ⟨ec, ef, ex, hbad, kE⟩ | ⟨c, hi, hn, h1, h2, hw, hw1, hl, k⟩
    · rcases hbad with ⟨hv, hno, rfl, rfl, rfl⟩ | ⟨n, p, u, a, hsq, hnv, hpv, huv, hav, hlen, hc⟩
      · refine ⟨_, rfl, _, 4, rfl, hv, fun xs hx H1 s1 => ?_, fun _ H1 s1 => ?_⟩
        · rw [decide_eq_false (hno _ hx)]
          exact ⟨_, rfl, iteT ⟨_, rfl, mk_at T.xc_InvalidCue.oex T.xc_InvalidCue.no (rf_of (kE.up s1))⟩⟩
        · exact ⟨_, rfl, iteT ⟨_, rfl, mk_at T.xc_InvalidCue.oex T.xc_InvalidCue.no (rf_of (kE.up s1))⟩⟩
      obtain ⟨ib, rfl, hib⟩ := id hsq
      refine ⟨_, rfl, .ref ib, 4, rfl, sq_any hsq, fun xs hx H1 s1 => ?_, fun hno => absurd ⟨_, hsq⟩ hno⟩
      rw [← hsq.inj hx]
      refine ⟨_, rfl, iteF ?_⟩
      have hib1 := hib.imp (s1 _ _) (s1 _ _)
      refine ⟨fun σ' H' => σ' = ([some (.ref s), some (.ref ib), some n, some p, some u, some a] : L2.St) ∧ H' = H1, ?_, ?_⟩
      · refine ⟨_, rfl, ?_⟩
        rcases hib1 with z | z
        · exact .inr ⟨ib, _, rfl, SqL.of z, rfl, _, _, rfl, _, _, rfl, _, _, rfl, _, _, rfl, rfl, rfl, rfl⟩
        · exact .inl ⟨ib, _, rfl, SqT.of z, rfl, _, _, rfl, _, _, rfl, _, _, rfl, _, _, rfl, rfl, rfl, rfl⟩
      · rintro σ' H' ⟨rfl, rfl⟩
        refine ⟨_, rfl, _, rfl, hnv.up s1, hlen, fun H2 s2 => ?_⟩
        have s12 := s1.trans s2
        rcases hc with ⟨h1, rfl, rfl, rfl⟩ | ⟨z, rfl, hz, hc⟩
        · rw [h1]
          exact ⟨_, rfl, iteT ⟨_, rfl, mk_at T.xc_InvalidName.oex T.xc_InvalidName.no (rf_of (kE.up s12))⟩⟩
        rw [show nameV (.str z) = true from hz]
        refine ⟨_, rfl, iteF ?_⟩
        have hb2 := hb.same s12
        obtain ⟨kr, hdr2⟩ := hdr
        replace hdr2 := s12 _ _ hdr2
        obtain ⟨hi2, hne, ⟨kc', g1, pc⟩, kr', g2, pr⟩ := id hb2
        have er : kr' = kr := by
          rw [hdr2] at g2
          cases g2
          rfl
        subst er
        have nmR : (PR.rowsF ("start" : Str) cs).map (·.1) = ("start" : Str) :: cs.map (·.1) := PR.rowsF_names _ _
        have inn : (valV kr' (Sum.inr z)).isSome = decide (z ∈ nmS cs) := by
          have q := kv_in (nm := (·.1)) (fun kv x q => q.1) pr z
          rw [nmR] at q
          exact q
        refine ⟨_, rfl, _, rfl, s, _, dx, _, _, rfl, hi2, T.cls_Sheet, T.no_Sheet_own_rows, rfl, dr, _, rfl, DGet.k (k := Sum.inr z) hdr2, _, rfl, ?_⟩
        rcases hc with ⟨h1, rfl, rfl, rfl⟩ | ⟨h1, hc⟩
        · rw [decide_eq_true h1] at inn
          rw [inn]
          exact iteT ⟨_, rfl, mk_at T.xc_Duplicate.oex T.xc_Duplicate.no (rf_of (kE.up s12))⟩
        rw [decide_eq_false h1] at inn
        rw [inn]
        refine iteF ⟨_, rfl, _, rfl, s, dx, _, rfl, hi2, s, dx, _, dr, kr', _, _, rfl, hi2, rfl, .inl hdr2, pr, hpv.up s12, _, rfl, _, rfl, ?_⟩
        rcases hc with ⟨h2, rfl, rfl, rfl⟩ | ⟨q, rfl, h2, hc⟩
        · have in2 : inRw (PR.rowsF ("start" : Str) cs) ex = false := by
            cases hpv with
            | str q =>
              show decide (q ∈ (PR.rowsF ("start" : Str) cs).map (·.1)) = false
              rw [nmR]
              exact decide_eq_false (h2 q rfl)
            | _ => rfl
          rw [in2]
          exact iteT ⟨_, rfl, mk_atG T.xg_UnknownCue.oex T.xg_UnknownCue.no (rf_of (kE.up s12))⟩
        have in2 : inRw (PR.rowsF ("start" : Str) cs) (.str q) = true := by
          show decide (q ∈ (PR.rowsF ("start" : Str) cs).map (·.1)) = true
          rw [nmR]
          exact decide_eq_true h2
        rw [in2]
        rcases hc with ⟨h3, rfl, rfl, rfl⟩ | ⟨ub, rfl, h3, rfl, rfl, rfl⟩
        · exact iteF ⟨_, rfl, _, rfl, huv.up s12, (fun e => by rw [h3] at e; cases e), fun _ => kE.up s12⟩
        · refine iteF ⟨_, rfl, _, rfl, .str _, fun _ => ?_, fun e => by rw [uS_unit] at e; cases e⟩
          exact ⟨_, rfl, _, rfl, hav.up s12, (fun e => absurd e (noQv_up hav h3 s12)), fun _ => ⟨_, rfl, iteT ⟨_, rfl, mk_at T.xc_InvalidAmount.oex T.xc_InvalidAmount.no (rf_of (kE.up s12))⟩⟩⟩
    · obtain ⟨av, hsq, hq⟩ := hi
      obtain ⟨ib, rfl, hib⟩ := id hsq
      refine ⟨_, rfl, .ref ib, 4, rfl, sq_any hsq, fun xs hx H1 s1 => ?_, fun hno => absurd ⟨_, hsq⟩ hno⟩
      rw [← hsq.inj hx]
      refine ⟨_, rfl, iteF ?_⟩
      have hib1 := hib.imp (s1 _ _) (s1 _ _)
      refine ⟨fun σ' H' => σ' = ([some (.ref s), some (.ref ib), some (.str c.1), some (.str c.2.1), some (.str (uS c.2.2.1)), some av] : L2.St) ∧ H' = H1, ?_, ?_⟩
      · refine ⟨_, rfl, ?_⟩
        rcases hib1 with z | z
        · exact .inr ⟨ib, _, rfl, SqL.of z, rfl, _, _, rfl, _, _, rfl, _, _, rfl, _, _, rfl, rfl, rfl, rfl⟩
        · exact .inl ⟨ib, _, rfl, SqT.of z, rfl, _, _, rfl, _, _, rfl, _, _, rfl, _, _, rfl, rfl, rfl, rfl⟩
      · rintro σ' H' ⟨rfl, rfl⟩
        have hz : c.1.length < sizeLine := by
          have z := name_len hn
          rw [sizeLine_eq]
          omega
        refine ⟨_, rfl, _, rfl, .str _, fun z e => by cases e; exact hz, fun H2 s2 => ?_⟩
        rw [show nameV (.str c.1) = true from hn]
        refine ⟨_, rfl, iteF ?_⟩
        have s12 := s1.trans s2
        have hb2 := hb.same s12
        have hq2 := hq.up s12
        obtain ⟨kc, hdc2⟩ := hdc
        obtain ⟨kr, hdr2⟩ := hdr
        replace hdc2 := s12 _ _ hdc2
        replace hdr2 := s12 _ _ hdr2
        obtain ⟨hi2, hne, ⟨kc', g1, pc⟩, kr', g2, pr⟩ := id hb2
        have ec : kc' = kc := by
          rcases g1 with g | ⟨o, g⟩ <;> rw [hdc2] at g <;> cases g
          rfl
        have er : kr' = kr := by
          rw [hdr2] at g2
          cases g2
          rfl
        subst ec er
        have nmR : (PR.rowsF ("start" : Str) cs).map (·.1) = ("start" : Str) :: cs.map (·.1) := PR.rowsF_names _ _
        have no1 : valV kr' (Sum.inr c.1) = none := by
          have z := kv_in (nm := (·.1)) (fun kv x q => q.1) pr c.1
          rw [nmR, decide_eq_false h1] at z
          cases e : valV kr' (Sum.inr c.1) with
          | none => rfl
          | some y => rw [e] at z; cases z
        have no2 : valV kc' (Sum.inr c.1) = none := by
          have z := kv_in (nm := (·.1)) (fun kv x q => q.1) pc c.1
          rw [decide_eq_false (fun q => h1 (List.mem_cons_of_mem _ q))] at z
          cases e : valV kc' (Sum.inr c.1) with
          | none => rfl
          | some y => rw [e] at z; cases z
        refine ⟨_, rfl, _, rfl, s, _, dx, _, _, rfl, hi2, T.cls_Sheet, T.no_Sheet_own_rows, rfl, dr, _, rfl, DGet.k (k := Sum.inr c.1) hdr2, _, rfl, ?_⟩
        rw [no1]
        refine iteF ⟨_, rfl, _, rfl, s, dx, _, rfl, hi2, s, dx, _, dr, kr', _, _, rfl, hi2, rfl, .inl hdr2, pr, .str _, _, rfl, _, rfl, ?_⟩
        have in2 : inRw (PR.rowsF ("start" : Str) cs) (.str c.2.1) = true := by
          show decide (c.2.1 ∈ (PR.rowsF ("start" : Str) cs).map (·.1)) = true
          rw [nmR]
          exact decide_eq_true h2
        rw [in2]
        refine iteF ⟨_, rfl, _, rfl, .str _, fun _ => ?_, fun e => by rw [uS_unit] at e; cases e⟩
        refine ⟨_, rfl, _, rfl, hq2.any, fun _ => ⟨_, rfl, iteF ?_⟩, fun e => absurd ⟨_, hq2⟩ e⟩
        have hkc : kc'.length < sizeLine := by rw [pc.length, sizeLine_eq]; omega
        have hkr : kr'.length < sizeLine := by rw [pr.length, PR.rowsF_len, sizeLine_eq]; omega
        refine ⟨_, rfl, _, rfl, _, rfl, _, rfl, hq2.any, .inl ⟨_, hq2, fun p H3 s3 hp => ⟨(by show 3 ≤ sizeLine; decide), fun t ht => ?_⟩⟩⟩
        have s4 := AT.Same.up (o := .tup [.str c.2.1, .str (uS c.2.2.1), .ref p]) ht
        have s34 := s3.trans s4
        refine ⟨_, rfl, s, _, dx, _, _, rfl, s34 _ _ hi2, T.cls_Sheet, T.no_Sheet_own_cues, rfl, _, rfl, dc, _, rfl, DPut.k (k := Sum.inr c.1) (s34 _ _ hdc2) hkc, ?_⟩
        rw [putK_new _ no2]
        have ht4 : upd H3 t (.tup [.str c.2.1, .str (uS c.2.2.1), .ref p]) t = some (.tup [.str c.2.1, .str (uS c.2.2.1), .ref p]) := upd_same
        have hp4 := hp.up s4
        generalize upd H3 t (.tup [.str c.2.1, .str (uS c.2.2.1), .ref p]) = H4 at s34 ht4 hp4 ⊢
        have dk4 : DkS [dc, dr] H4 := by
          intro a ha
          simp only [List.mem_cons, List.not_mem_nil, or_false] at ha
          rcases ha with rfl | rfl
          · exact ⟨_, s34 _ _ hdc2⟩
          · exact ⟨_, s34 _ _ hdr2⟩
        have m5 : Sm [dc, dr] H4 (upd H4 dc (.dK (kc' ++ [(Sum.inr c.1, .ref t)]))) := Sm.up (by simp)
        have hdc5 : upd H4 dc (.dK (kc' ++ [(Sum.inr c.1, .ref t)])) dc = some (.dK (kc' ++ [(Sum.inr c.1, .ref t)])) := upd_same
        have hdr5 : upd H4 dc (.dK (kc' ++ [(Sum.inr c.1, .ref t)])) dr = some (.dK kr') := by rw [upd_ne (Ne.symm hne)]; exact s34 _ _ hdr2
        generalize upd H4 dc (.dK (kc' ++ [(Sum.inr c.1, .ref t)])) = H5 at m5 hdc5 hdr5 ⊢
        have hi5 := m5 _ _ (sheet_nd dk4 (s34 _ _ hi2)) (s34 _ _ hi2)
        have pr5 : Paired (KvR RwP H5) kr' (PR.rowsF ("start" : Str) cs) := Paired.mapP pr fun _ _ z => z.up ((TT.of s34).trans (m5.ttD dk4))
        obtain ⟨vp, e1, e2⟩ := kv_val pr5 (n := c.2.1) (by rw [nmR]; exact h2)
        have hq5 : Qv K H5 av c.2.2.2 := (hq2.up s34).sm m5 dk4
        refine ⟨_, rfl, s, _, dx, _, _, rfl, hi5, T.cls_Sheet, T.no_Sheet_own_rows, rfl, _, rfl, dr, vp, rfl, .inl ⟨kr', Sum.inr c.2.1, .inl hdr5, rfl, e1.symm⟩, _, rfl, _, rfl, _, rfl, hq5.any, .inl ⟨_, hq5, fun p2 H6 s6 hp2 => ?_⟩⟩
        have wr := PR.rowOf_wt (PR.rowsF_wt szB ("start" : Str) cs hw) c.2.1
        refine ⟨vp, c.2.2.1, p2, _, c.2.2.2, rfl, e2.up (TT.of s6), hp2, PR.rowOf_red (PR.rowsF_red _ _) _, ⟨wt_bits wr (by omega), hw1.bits (by decide)⟩, ?_, fun v2 H7 s7 hv2 => ?_⟩
        · have := PR.rowOf_len (PR.rowsF_rlen ("start" : Str) cs) c.2.1
          omega
        · have s67 := s6.trans s7
          refine ⟨_, rfl, s, _, dx, _, _, rfl, s67 _ _ hi5, T.cls_Sheet, T.no_Sheet_own_rows, rfl, _, rfl, dr, _, rfl, DPut.k (k := Sum.inr c.1) (s67 _ _ hdr5) hkr, ?_⟩
          rw [putK_new _ no1]
          have m8 : Sm [dc, dr] H7 (upd H7 dr (.dK (kr' ++ [(Sum.inr c.1, v2)]))) := Sm.up (by simp)
          have dk7 : DkS [dc, dr] H7 := by
            intro a ha
            simp only [List.mem_cons, List.not_mem_nil, or_false] at ha
            rcases ha with rfl | rfl
            · exact ⟨_, s67 _ _ hdc5⟩
            · exact ⟨_, s67 _ _ hdr5⟩
          have mm : Sm [dc, dr] H4 (upd H7 dr (.dK (kr' ++ [(Sum.inr c.1, v2)]))) := m5.trans ((Sm.of s67).trans m8)
          have hc8 : upd H7 dr (.dK (kr' ++ [(Sum.inr c.1, v2)])) dc = some (.dK (kc' ++ [(Sum.inr c.1, .ref t)])) := by rw [upd_ne hne]; exact s67 _ _ hdc5
          refine k _ ((Sm.of (s12.trans s34)).trans mm) ⟨mm _ _ (sheet_nd dk4 (s34 _ _ hi2)) (s34 _ _ hi2), hne, ⟨_, .inl hc8, ?_⟩, _, upd_same, ?_⟩ ⟨_, hc8⟩ ⟨_, upd_same⟩
          · refine prd_app (Paired.mapP pc fun _ _ z => (z.same s34).sm mm dk4) (.cons ⟨rfl, t, p, rfl, (mm.ttD dk4) _ _ ht4, hp4.sm mm dk4⟩ .nil)
          · rw [PR.rowsF_snoc]
            exact prd_app (Paired.mapP pr fun _ _ z => z.up ((TT.of s34).trans (mm.ttD dk4))) (.cons ⟨rfl, hv2.up (m8.ttD dk7)⟩ .nil)
end
end K34

set_option maxHeartbeats 4000000
namespace K34
open PySem PySem.Spec PyProof.Rows L2 AT
section
variable {P : Program} {w : World} {K : PySem.W.Frag} {mg : Str → Option Value} {base : Heap}
theorem cS_ne (T : Tx K mg base) : cS K ≠ cA K := fun z => by
  have h1 : PySem.W.kitOne K (.ref (cS K)) (.ref (cA K)) = some false := T.k_Sheet_Amount
  have h2 : PySem.W.kitOne K (.ref (cA K)) (.ref (cA K)) = some true := T.k_Amount_Amount
  rw [z, h2] at h1
  cases h1
/-- tuples and amounts stay -/
def TQ (K : PySem.W.Frag) (H H' : Hp) : Prop := TT H H' ∧ ∀ p dx fs, H p = some (.ins (cA K) dx fs) → H' p = some (.ins (cA K) dx fs)
theorem TQ.refl (H : Hp) : TQ K H H := ⟨TT.refl H, fun _ _ _ e => e⟩
theorem TQ.trans {H H1 H2 : Hp} (a : TQ K H H1) (b : TQ K H1 H2) : TQ K H H2 := ⟨a.1.trans b.1, fun p d fs e => b.2 p d fs (a.2 p d fs e)⟩
theorem TQ.of {H H' : Hp} (s : Same H H') : TQ K H H' := ⟨TT.of s, fun _ _ _ e => s _ _ e⟩
theorem TQ.new {H : Hp} {p : Addr} {u : HO} (e : H p = none) : TQ K H (upd H p u) := TQ.of (AT.Same.up e)
theorem TQ.up {H : Hp} {p : Addr} {o u : HO} (e : H p = some o) (h : ∀ xs, o ≠ .tup xs) (h2 : ∀ dx fs, o ≠ .ins (cA K) dx fs) : TQ K H (upd H p u) := ⟨TT.up e h, fun b d fs z => by
  rw [upd_ne (fun q => by subst q; rw [e] at z; cases z; exact h2 _ _ rfl)]
  exact z⟩
theorem TQ.sm {S : List Addr} {H H' : Hp} (s : Sm S H H') (h : ∀ a ∈ S, ∀ o, H a = some o → (∀ xs, o ≠ .tup xs) ∧ ∀ dx fs, o ≠ .ins (cA K) dx fs) : TQ K H H' :=
  ⟨fun b xs e => s b _ (fun hb => (h b hb _ e).1 _ rfl) e, fun b d fs e => s b _ (fun hb => (h b hb _ e).2 _ _ rfl) e⟩
theorem IsQ.tq {H H' : Hp} {p : Addr} {q : Rat} (h : IsQ K H p q) (s : TQ K H H') : IsQ K H' p q := h.imp fun _ e => s.2 _ _ _ e
theorem Qv.tq {H H' : Hp} {v : V} {q : Rat} (h : Qv K H v q) (s : TQ K H H') : Qv K H' v q := by
  cases h with
  | obj h => exact .obj (h.tq s)
  | int i => exact .int i
theorem KvC.tq {H H' : Hp} {kv : Key × V} {c : Cue} (h : KvC K H kv c) (s : TQ K H H') : KvC K H' kv c := by
  obtain ⟨h1, t, p, h2, h3, h4⟩ := h
  exact ⟨h1, t, p, h2, s.1 _ _ h3, h4.tq s⟩
theorem nt_ins {C dx : Addr} {fs xs} : (HO.ins C dx fs) ≠ .tup xs := fun z => nomatch z
theorem na_sheet (T : Tx K mg base) {dx dx' : Addr} {fs fs'} : (HO.ins (cS K) dx fs) ≠ .ins (cA K) dx' fs' := fun z => cS_ne T (HO.ins.inj z).1
/-- row[:many] -/
theorem sl_row {H : Hp} {a : Addr} {xs : List V} {r : Row} {m : Nat} (ha : H a = some (.tup xs)) (hx : Paired (MbP H) xs r) {Q : VK} (k : ∀ v H', Same H H' → RwP H' v (r.take m) → Q v H') : rSlA K (.ref a) none (some (m : Int)) H Q := by
  refine ⟨a, xs, rfl, SqT.of ha, fun h => ?_, fun _ p hp => ?_⟩
  · refine k _ _ (Same.refl _) ⟨a, xs, rfl, ha, ?_⟩
    have e := h.2
    rw [HT.sIx_nat] at e
    have e2 : xs.length ≤ m := by omega
    rw [List.take_of_length_le (by rw [← hx.length]; exact e2)]
    exact hx
  · have s := AT.Same.up (o := .tup (cutV xs none (some (m : Int)))) hp
    refine k _ _ s ⟨p, _, rfl, upd_same, ?_⟩
    rw [cut_to]
    exact Paired.mapP (prd_take hx m) fun _ _ z => z.up (TT.new hp)
/-- the whole of a sheet -/
structure IsSheet (K : PySem.W.Frag) (H : Hp) (s : Addr) (cs : List Cue) : Prop where
  ex : ∃ dx dc dr lm dw, Bld K H s dx dc dr [("own_moments", .ref lm), ("own_ways", .ref dw)] cs ∧ (∃ ms, H lm = some (.lst ms) ∧ Paired (RwP H) ms (PR.momC ("start" : Str) cs)) ∧
    ∃ kvs, H dw = some (.dT kvs) ∧ ∀ (i j : Nat) a b, (PR.momC ("start" : Str) cs)[i]? = some a → (PR.momC ("start" : Str) cs)[j]? = some b → ∃ v, valV kvs [Sum.inl (i : Int), Sum.inl (j : Int)] = some v ∧ RwP H v (PR.btw a b)
  own : ∃ dx fs dc kc, H s = some (.ins (cS K) dx fs) ∧ fs.lookup ("own_cues" : Str) = some (.ref dc) ∧ H dc = some (.dK kc)
/-- no letter stands right behind a digit -/
def ldOk : List Nat → Bool
  | c :: d :: r => !(decide (c ≤ 57) && decide (97 ≤ d)) && ldOk (d :: r)
  | _ => true
/-- cues that are right -/
structure CuesOk (cs : List Cue) : Prop where
  good : PR.Good ("start" : Str) cs
  name : ∀ c ∈ cs, isNameS c.1 = true
  size : ∀ c ∈ cs, SzB 1 c.2.2.2
  len : cs.length < 30
/-- in no name a letter stands right behind a digit -/
def LdOk (cs : List Cue) : Prop := ∀ c ∈ cs, ldOk c.1.cps.toList = true
theorem s_ne {s dx b : Addr} {fs : List (Str × V)} {H : Hp} {o : HO} (hs : H s = some (.ins (cS K) dx fs)) (e : H b = some o) (hn : ∀ d f, o ≠ .ins (cS K) d f) : b ∉ [s] := fun hb => by
  rw [List.mem_singleton] at hb
  subst hb
  rw [hs] at e
  cases e
  exact hn _ _ rfl
class NotIns (o : HO) : Prop where
  no : ∀ C d f, o ≠ .ins C d f
instance {xs : List V} : NotIns (.lst xs) := ⟨fun _ _ _ z => nomatch z⟩
instance {xs : List V} : NotIns (.tup xs) := ⟨fun _ _ _ z => nomatch z⟩
instance {xs : List (Key × V)} : NotIns (.dK xs) := ⟨fun _ _ _ z => nomatch z⟩
instance {xs : List (List Key × V)} : NotIns (.dT xs) := ⟨fun _ _ _ z => nomatch z⟩
theorem s_neQ {s dx b : Addr} {fs : List (Str × V)} {H : Hp} {o : HO} [n : NotIns o] (hs : H s = some (.ins (cS K) dx fs)) (e : H b = some o) : b ∉ [s] := s_ne hs e fun _ _ => n.no _ _ _
theorem tq_s (T : Tx K mg base) {s dx : Addr} {fs : List (Str × V)} {H H' : Hp} (m : Sm [s] H H') (hs : H s = some (.ins (cS K) dx fs)) : TQ K H H' := TQ.sm m fun a ha o e => by
  rw [List.mem_singleton] at ha
  subst ha
  rw [hs] at e
  cases e
  exact ⟨fun _ => nt_ins, fun _ _ => na_sheet T⟩
theorem ItC.sm (T : Tx K mg base) {s dx : Addr} {fs : List (Str × V)} {H H' : Hp} {v : V} {c : Cue} (h : ItC K H v c) (m : Sm [s] H H') (hs : H s = some (.ins (cS K) dx fs)) : ItC K H' v c := by
  obtain ⟨av, ⟨b, e, hb⟩, hq⟩ := h
  refine ⟨av, ⟨b, e, ?_⟩, hq.tq (tq_s T m hs)⟩
  rcases hb with hb | hb
  · exact .inl (m _ _ (s_neQ hs hb) hb)
  · exact .inr (m _ _ (s_neQ hs hb) hb)
theorem tq_lm {l : Addr} {xs : List V} {H H' : Hp} (m : Sm [l] H H') (hl : H l = some (.lst xs)) : TQ K H H' := TQ.sm m fun a ha o e => by
  rw [List.mem_singleton] at ha
  subst ha
  rw [hl] at e
  cases e
  exact ⟨(fun _ z => nomatch z), (fun _ _ z => nomatch z)⟩
theorem tq_dw {l : Addr} {xs : List (List Key × V)} {H H' : Hp} (m : Sm [l] H H') (hl : H l = some (.dT xs)) : TQ K H H' := TQ.sm m fun a ha o e => by
  rw [List.mem_singleton] at ha
  subst ha
  rw [hl] at e
  cases e
  exact ⟨(fun _ z => nomatch z), (fun _ _ z => nomatch z)⟩
theorem one_ne {l b : Addr} {H : Hp} {o u : HO} (hl : H l = some u) (e : H b = some o) (h : u ≠ o) : b ∉ [l] := fun hb => by
  rw [List.mem_singleton] at hb
  subst hb
  rw [hl] at e
  cases e
  exact h rfl
theorem noSqU' {H H' : Hp} {v : V} (hv : AnyV K H v) (h : ¬ ∃ xs, Sq H v xs) (s : Same H H') : ¬ ∃ xs, Sq H' v xs := by
  rintro ⟨xs, hq⟩
  exact absurd rfl (noSqL_up (m := xs.length) hv (fun ys hy => absurd ⟨_, hy⟩ h) s xs hq)
/-- Sheet(v) in the heap H0 of the caller: refused, or made -/
def ShIn (K : PySem.W.Frag) (H0 : Hp) (v : V) (E : XK) (G : List Cue → Prop) : Prop :=
  (AnyV K H0 v ∧ (¬ ∃ xs, Sq H0 v xs) ∧ Rf K "InvalidPart" "value" v H0 E) ∨
  ∃ xs cs, Sq H0 v xs ∧ Paired (ItC K H0) (xs.take cs.length) cs ∧ cs.length ≤ xs.length ∧ CuesOk cs ∧
   ((∃ y c f x, xs[cs.length]? = some y ∧ BadC K H0 cs y c f x ∧ Rf K c f x H0 E) ∨
    (xs.length = cs.length ∧ ((8 < (PR.momC ("start" : Str) cs).length ∧ Rf K "TooMany" "most" (.int 8) H0 E) ∨ ((PR.momC ("start" : Str) cs).length ≤ 8 ∧ G cs))))
def spSheet (K : PySem.W.Frag) : Sp := fun vs H Q E => ∃ s dx v H0, vs = [.ref s, v] ∧ H s = some (.ins (cS K) dx []) ∧ Same H0 H ∧ H0 s = none ∧ ShIn K H0 v E fun cs => ∀ H', Sm [s] H H' → IsSheet K H' s cs → Q .non H'
theorem sc_Sheet_init_ : FnScope ["self", "cues", "item", "name", "row", "many", "one", "other", "more"] ["self", "cues"] (defScope s_Sheet_init_) := ⟨rfl, rfl, rfl, by decide +kernel, rfl, by decide +kernel, by decide +kernel⟩
theorem ok_Sheet_init_ (T : Tx K mg base) : Ok P w K mg base 12 (d_Sheet_init_.loc K) ["self", "cues"] (spSheet K) := by
  refine mk_ok (k := 11) T.f_Sheet_init_ sc_Sheet_init_ (fun _ _ _ _ _ _ us hl => match us, hl with | [_, _], _ => rfl) (fun vs H Q E h => ?_) (fun cdv A outer s H vs Q E hr h => ?_)
  · obtain ⟨s, dx, v, H0, rfl, _⟩ := h
    rfl
  · obtain ⟨s, dx, v, H0, rfl, hs, s0, hs0, hin⟩ := h
    refine ⟨_, (pss_cons (ps_if (pt_not (pt_val (ok_call (ok_is_list T) (hr.mono (by decide)) rfl T.g_is_list passL (pa_cons (pv 1) pa_nil)))) (pss_one (ps_rs rfl (mx_InvalidPart T (hr.mono (by decide))) (takes_of rfl rfl rfl rfl) rfl (pv 1))) pss_nil)
      (pss_cons (ps_fld (pv 0) pe_dnewK rfl)
      (pss_cons (ps_fld (pv 0) (pe_disp (pps_cons (pe_k T.c_START) (pe_tup pa_nil) pps_nil) (by rfl) (by rfl) (fun z => by cases z) (by decide)) rfl)
      (Evl.pss_cut (ps_for (passes_of rfl) rfl (pi_sq (pv 1)) (pg_name (i := 2) sc_Sheet_init_.nd rfl (Or.inl rfl)) (pss_one (ps_expr (ok_meth T.cls_Sheet T.m_Sheet_take_in (ok_Sheet_take_in T) (hr.mono (by decide)) (passE rfl rfl rfl rfl) (pv 0) (pa_cons (pv 2) pa_nil)))))
      (pss_cons (ps_fld (pv 0) (pe_lst (pa_cons (pe_tup pa_nil) pa_nil)) rfl)
      (Evl.pss_cut (ps_lock (ps_for (passes_of rfl) rfl (pi_keys (pe_fld (pv 0) rfl)) (pg_name (i := 3) sc_Sheet_init_.nd rfl (Or.inl rfl)) (pss_cons (ps_set (i := 4) sc_Sheet_init_.nd rfl (Or.inl rfl) (pe_dget (by exact hu_of hr) (pe_fld (pv 0) rfl) (pv 3) (fun _ _ => rfl)))
      (pss_one (ps_for (passes_of rfl) rfl (pi_range2 (by rfl) T.b_range (pa_cons pe_int (pa_cons (pe_op op_add (pe_callB call_len_seq (by rfl) T.b_len (by decide +kernel) (pa_cons (pv 4) pa_nil)) pe_int) pa_nil))) (pg_name (i := 5) sc_Sheet_init_.nd rfl (Or.inl rfl)) (pss_one (ps_if (pt_cmpR (op_notInD (room65 hr)) (pe_slice sl_tupA (pv 4) po_none (po_some (pv 5))) (pe_fld (pv 0) rfl) (by rfl)) (pss_one (ps_expr (pe_bm PySem.F.plainAttrs_list PySem.F.slot_list_append PySem.F.type_list_append mt_append (pe_fld (pv 0) rfl) (pa_cons (pe_slice sl_tupA (pv 4) po_none (po_some (pv 5))) pa_nil)))) pss_nil)))))))
      (pss_cons (ps_if (pt_cmpR op_gt (pe_callB call_len_seq (by rfl) T.b_len (by decide +kernel) (pa_cons (pe_fld (pv 0) rfl) pa_nil)) (pe_k T.c_MOST_MOMENTS) (nomark _)) (pss_one (ps_rsG rfl (mx_TooMany T (hr.mono (by decide))) (takes_of rfl rfl rfl rfl) rfl (pe_k T.c_MOST_MOMENTS))) pss_nil)
      (pss_cons (ps_fld (pv 0) pe_dnewT rfl)
      (pss_one (ps_for (passes_of rfl) rfl (pi_enumA (by rfl) T.b_enumerate (pa_cons (pe_fld (pv 0) rfl) pa_nil)) (pg_tup rfl (pgs_cons (pg_name (i := 6) sc_Sheet_init_.nd rfl (Or.inl rfl)) (pgs_cons (pg_name (i := 4) sc_Sheet_init_.nd rfl (Or.inl rfl)) pgs_nil))) (pss_one (ps_for (passes_of rfl) rfl (pi_enumA (by rfl) T.b_enumerate (pa_cons (pe_fld (pv 0) rfl) pa_nil)) (pg_tup rfl (pgs_cons (pg_name (i := 7) sc_Sheet_init_.nd rfl (Or.inl rfl)) (pgs_cons (pg_name (i := 8) sc_Sheet_init_.nd rfl (Or.inl rfl)) pgs_nil))) (pss_one (ps_dput (by exact hu_of hr) (pe_fld (pv 0) rfl) (pe_tup (pa_cons (pv 6) (pa_cons (pv 7) pa_nil))) (ok_call (ok_joined T) (hr.mono (by decide)) rfl T.g_joined passL (pa_cons (ok_call (ok_opposite T) (hr.mono (by decide)) rfl T.g_opposite passL (pa_cons (pv 4) pa_nil)) (pa_cons (pv 8) pa_nil))) rfl)))))))))))))), ?_⟩
    have sm0 : ∀ {H' : Hp}, Sm [s] H H' → Same H0 H' := fun {H'} m b o e => m b o (by rw [List.mem_singleton]; rintro rfl; rw [hs0] at e; cases e) (s0 b o e)
    rcases hin with ⟨hv, hno, kE⟩ | ⟨xs, cs, hv0, hx, hle, hok, hin⟩
    · exact ⟨_, rfl, _, rfl, hv.up s0, fun hq => absurd hq (noSqU' hv hno s0), fun _ H1 s1 => ⟨_, rfl, iteT ⟨_, rfl, mk_at T.xc_InvalidPart.oex T.xc_InvalidPart.no (rf_of (kE.up (s0.trans s1)))⟩⟩⟩
    have hv := hv0.up s0
    obtain ⟨a, rfl, ha⟩ := id hv
    refine ⟨_, rfl, _, rfl, sq_any hv, fun _ H1 s1 => ⟨_, rfl, iteF ?_⟩, fun e => absurd ⟨_, hv⟩ e⟩
    have hs1 := s1 _ _ hs
    refine fun dc gdc => ⟨_, rfl, s, _, dx, _, rfl, (AT.Same.up gdc) _ _ hs1, T.cls_Sheet, T.no_Sheet_own_cues, (by decide), ?_⟩
    have ndc : dc ≠ s := by rintro rfl; rw [hs1] at gdc; cases gdc
    generalize hH2 : upd (upd H1 dc (.dK [])) s (HO.ins (cS K) dx _) = H2
    have m2 : Sm [s] H1 H2 := by rw [← hH2]; exact (Sm.of (AT.Same.up gdc)).trans (Sm.up (by simp))
    have hs2 : H2 s = some (.ins (cS K) dx [("own_cues", .ref dc)]) := by rw [← hH2]; exact upd_same
    have hdc2 : H2 dc = some (.dK []) := by rw [← hH2, upd_ne ndc, upd_same]
    clear hH2
    refine fun dr gdr => ⟨Nat.zero_le _, fun t gt => ⟨?_, [(Sum.inr "start", .ref t)], rfl, (by show 1 ≤ 15; decide), ?_⟩⟩
    · rw [upd_ne (by rintro rfl; rw [upd_same] at gt; cases gt)]
      exact upd_same
    · have em : mergeK [] [((Sum.inr "start" : Key), V.ref t)] = ([(Sum.inr "start", V.ref t)] : List (Key × V)) := rfl
      rw [em]
      have ntr : t ≠ dr := by rintro rfl; rw [upd_same] at gt; cases gt
      have gt2 : H2 t = none := by rw [upd_ne ntr] at gt; exact gt
      have nsr : s ≠ dr := by rintro rfl; rw [hs2] at gdr; cases gdr
      have nst : s ≠ t := by rintro rfl; rw [hs2] at gt2; cases gt2
      generalize hH3 : upd (upd (upd H2 dr (.dK [])) t (.tup [])) dr (.dK [(Sum.inr "start", .ref t)]) = H3
      have m3 : Same H2 H3 := by rw [← hH3]; exact AT.Same.new (AT.Same.new (AT.Same.up gdr) gt2) gdr
      have hdr3 : H3 dr = some (.dK [(Sum.inr "start", .ref t)]) := by rw [← hH3]; exact upd_same
      have ht3 : H3 t = some (.tup []) := by rw [← hH3, upd_ne ntr, upd_same]
      clear hH3
      have hs3 := m3 _ _ hs2
      have hdc3 := m3 _ _ hdc2
      have ndd : dc ≠ dr := by rintro rfl; rw [hdc2] at gdr; cases gdr
      refine ⟨_, rfl, s, _, dx, _, rfl, hs3, T.cls_Sheet, T.no_Sheet_own_rows, (by show 1 < 1000; decide), ?_⟩
      generalize hH4 : upd H3 s (HO.ins (cS K) dx _) = H4
      have m4 : Sm [s] H3 H4 := by rw [← hH4]; exact Sm.up (by simp)
      have hs4 : H4 s = some (.ins (cS K) dx [("own_cues", .ref dc), ("own_rows", .ref dr)]) := by rw [← hH4]; exact upd_same
      have hdc4 : H4 dc = some (.dK []) := by rw [← hH4, upd_ne ndc]; exact hdc3
      have hdr4 : H4 dr = some (.dK [(Sum.inr "start", .ref t)]) := by rw [← hH4, upd_ne (Ne.symm nsr)]; exact hdr3
      have ht4 : H4 t = some (.tup []) := by rw [← hH4, upd_ne (Ne.symm nst)]; exact ht3
      have m04 : Sm [s] H H4 := (Sm.of s1).trans (m2.trans ((Sm.of m3).trans m4))
      clear hH4
      have gdc0 : H dc = none := none_of s1 gdc
      have gdr0 : H dr = none := by
        cases e : H dr with
        | none => rfl
        | some o => rw [m2 _ _ (by simpa using Ne.symm nsr) (s1 _ _ e)] at gdr; cases gdr
      have bld4 : Bld K H4 s dx dc dr [] ([] : List Cue) := ⟨hs4, ndd, ⟨[], .inl hdc4, .nil⟩, _, hdr4, .cons ⟨rfl, .nil ht4⟩ .nil⟩
      have haS : ∀ {H' : Hp}, Sm [s] H H' → H' a = some (.lst xs) ∨ H' a = some (.tup xs) := fun {H'} m => ha.imp (fun z => m _ _ (s_neQ hs z) z) (fun z => m _ _ (s_neQ hs z) z)
      have haE : ∀ {H' : Hp}, Sm [s] H H' → H' a = H4 a := fun {H'} m => by
        rcases ha with z | z <;> rw [m _ _ (s_neQ hs z) z, m04 _ _ (s_neQ hs z) z]
      have hcl := hok.len
      have hxl := hx.length
      rw [List.length_take, Nat.min_eq_left hle] at hxl
      refine ⟨fun σ' H' => Sm [s] H H' ∧ (∃ o2, σ' = ([some (.ref s), some (.ref a), o2, none, none, none, none, none, none] : L2.St)) ∧ xs.length = cs.length ∧ Bld K H' s dx dc dr [] cs ∧ (∃ kvs, H' dc = some (.dK kvs)) ∧ ∃ kvs, H' dr = some (.dK kvs), ?_, ?_⟩
      · refine ⟨_, rfl, a, xs, rfl, (haS m04).imp SqL.of SqT.of, fun J G wk hG => ?_⟩
        refine for_it wk (fun i σ' H' => Sm [s] H H' ∧ (∃ o2, σ' = ([some (.ref s), some (.ref a), o2, none, none, none, none, none, none] : L2.St)) ∧ i ≤ cs.length ∧ Bld K H' s dx dc dr [] (cs.take i) ∧ (∃ kvs, H' dc = some (.dK kvs)) ∧ ∃ kvs, H' dr = some (.dK kvs)) ⟨m04, ⟨_, rfl⟩, Nat.zero_le _, bld4, ⟨_, hdc4⟩, _, hdr4⟩ (fun i σ' H' _ hP => hG _ (haE hP.1)) (fun i x σ' H' H2 hi hP hY => ?_) (fun σ' H' hP => ?_)
        · obtain ⟨m, ⟨o2, rfl⟩, hic, hb, hd1, hd2⟩ := hP
          obtain ⟨rfl, hxi⟩ := hY
          by_cases hil : i < cs.length
          · obtain ⟨c, hc, hit⟩ := prd_getL hx (show (xs.take cs.length)[i]? = some x by rw [List.getElem?_take, if_pos hil]; exact hxi)
            obtain ⟨g1, g2⟩ := hok.good.at hc
            have hcm := List.mem_of_getElem? hc
            have hit' : ∀ {Hq : Hp}, Same H0 Hq → ItC K Hq x c := fun {Hq} sq => by
              obtain ⟨av, z1, z2⟩ := hit
              exact ⟨av, z1.up sq, z2.up sq⟩
            refine ⟨_, rfl, s, dx, _, rfl, hb.ins, rfl, _, rfl, s, dx, dc, dr, cs.take i, x, rfl, hb, hd1, hd2, .inr ⟨c, hit' (sm0 m), hok.name c hcm, g1, g2, fun y hy => hok.size y (List.mem_of_mem_take hy), hok.size c hcm, ?_, fun H' m' hb' e1 e2 => ?_⟩⟩
            · rw [List.length_take]; omega
            · refine ⟨fun b o hbn e => ?_, ⟨_, rfl⟩, hil, ?_, e1, e2⟩
              · refine m' _ _ ?_ (m _ _ hbn e)
                simp only [List.mem_cons, List.not_mem_nil, or_false, not_or]
                exact ⟨(by rintro rfl; rw [gdc0] at e; cases e), (by rintro rfl; rw [gdr0] at e; cases e)⟩
              · rw [List.take_add_one, hc]
                exact hb'
          · have hie : i = cs.length := by omega
            subst hie
            rcases hin with ⟨y, ec, ef, ex, hy, hbad, kE⟩ | ⟨hl, _⟩
            · rw [hxi] at hy
              cases hy
              rw [List.take_length] at hb
              exact ⟨_, rfl, s, dx, _, rfl, hb.ins, rfl, _, rfl, s, dx, dc, dr, cs, x, rfl, hb, hd1, hd2, .inl ⟨ec, ef, ex, hbad.up (sm0 m), kE.up (sm0 m)⟩⟩
            · have := (List.getElem?_eq_some_iff.mp hxi).1
              omega
        · obtain ⟨m, ⟨o2, rfl⟩, hic, hb, hd1, hd2⟩ := hP
          have hxe : xs.length = cs.length := by omega
          rw [hxe, List.take_length] at hb
          exact ⟨m, ⟨_, rfl⟩, hxe, hb, hd1, hd2⟩
      · rintro σ' H5 ⟨m5, ⟨o2, rfl⟩, hxe, hb5, ⟨kc, hdc5⟩, kr, hdr5⟩
        have hin : (8 < (PR.momC ("start" : Str) cs).length ∧ Rf K "TooMany" "most" (.int 8) H0 E) ∨ ((PR.momC ("start" : Str) cs).length ≤ 8 ∧ ∀ H', Sm [s] H H' → IsSheet K H' s cs → Q .non H') := by
          rcases hin with ⟨y, _, _, _, hy, _⟩ | ⟨_, hin⟩
          · have := (List.getElem?_eq_some_iff.mp hy).1
            omega
          · exact hin
        refine ⟨Nat.zero_le _, fun t6 gt6 => ⟨(by show 1 ≤ sizeLine; decide), fun lm glm => ?_⟩⟩
        have s6 := (AT.Same.up (o := .tup []) gt6)
        have s6b := AT.Same.up (o := .lst [.ref t6]) glm
        have s6c := s6.trans s6b
        refine ⟨_, rfl, s, _, dx, _, rfl, s6c _ _ hb5.ins, T.cls_Sheet, T.no_Sheet_own_moments, (by show 2 < 1000; decide), ?_⟩
        generalize hH6 : upd (upd (upd H5 t6 (.tup [])) lm (.lst [.ref t6])) s (HO.ins (cS K) dx _) = H6
        have nls : lm ≠ s := by rintro rfl; rw [s6 _ _ hb5.ins] at glm; cases glm
        have nts : t6 ≠ s := by rintro rfl; rw [hb5.ins] at gt6; cases gt6
        have ntl : t6 ≠ lm := by rintro rfl; rw [upd_same] at glm; cases glm
        have m6 : Sm [s] H5 H6 := by rw [← hH6]; exact (Sm.of s6c).trans (Sm.up (by simp))
        have hs6 : H6 s = some (.ins (cS K) dx [("own_cues", .ref dc), ("own_rows", .ref dr), ("own_moments", .ref lm)]) := by rw [← hH6]; exact upd_same
        have hlm6 : H6 lm = some (.lst [.ref t6]) := by rw [← hH6, upd_ne nls, upd_same]
        have ht6 : H6 t6 = some (.tup []) := by rw [← hH6, upd_ne nts, upd_ne ntl, upd_same]
        clear hH6
        have tq6 : TQ K H5 H6 := tq_s T m6 hb5.ins
        have hdc6 := m6 _ _ (s_neQ hb5.ins hdc5) hdc5
        have hdr6 := m6 _ _ (s_neQ hb5.ins hdr5) hdr5
        obtain ⟨_, _, ⟨kc', g1, pc⟩, kr', g2, pr⟩ := hb5
        have ec : kc' = kc := by
          rcases g1 with g | ⟨o, g⟩ <;> rw [hdc5] at g <;> cases g
          rfl
        have er : kr' = kr := by
          rw [hdr5] at g2
          cases g2
          rfl
        subst ec er
        have pc6 : Paired (KvC K H6) kc' cs := Paired.mapP pc fun _ _ z => z.tq tq6
        have pr6 : Paired (KvR RwP H6) kr' (PR.rowsF ("start" : Str) cs) := Paired.mapP pr fun _ _ z => z.up tq6.1
        have glm5 : H5 lm = none := none_of s6 glm
        have m06 : Sm [s] H H6 := m5.trans m6
        have glm0 : H lm = none := by
          cases e : H lm with
          | none => rfl
          | some o => rw [m5 _ _ (by simpa using nls) e] at glm5; cases glm5
        clear pc pr g1 g2 m6 tq6 hdc5 hdr5 glm s6 s6b s6c gt6 m5
        refine ⟨fun σ' H' => (∃ o2 o3 o4 o5, σ' = ([some (.ref s), some (.ref a), o2, o3, o4, o5, none, none, none] : L2.St)) ∧ Sm [lm] H6 H' ∧ ∃ ms, H' lm = some (.lst ms) ∧ Paired (RwP H') ms (PR.momC ("start" : Str) cs), ?_, ?_⟩
        · refine ⟨dc, .dK kc', hdc6, trivial, fun od => ?_⟩
          generalize hHb : upd H6 dc (.frz od (.dK kc')) = Hb
          have hdcb : Hb dc = some (.frz od (.dK kc')) := by rw [← hHb]; exact upd_same
          have neb : ∀ {b : Addr}, b ≠ dc → Hb b = H6 b := fun {b} h => by rw [← hHb, upd_ne h]
          have tqb : TQ K H6 Hb := by rw [← hHb]; exact TQ.up hdc6 (fun _ z => nomatch z) (fun _ _ z => nomatch z)
          have hsb : Hb s = some (.ins (cS K) dx [("own_cues", .ref dc), ("own_rows", .ref dr), ("own_moments", .ref lm)]) := by rw [neb (Ne.symm ndc)]; exact hs6
          have hdrb : Hb dr = some (.dK kr') := by rw [neb (Ne.symm ndd)]; exact hdr6
          have nlc : lm ≠ dc := by rintro rfl; rw [hdc6] at hlm6; cases hlm6
          have hlmb : Hb lm = some (.lst [.ref t6]) := by rw [neb nlc]; exact hlm6
          have prb : Paired (KvR RwP Hb) kr' (PR.rowsF ("start" : Str) cs) := Paired.mapP pr6 fun _ _ z => z.up tqb.1
          have back : ∀ {H' : Hp}, Sm [lm] Hb H' → Sm [lm] H6 (upd H' dc (.dK kc')) := fun {H'} m b o hb e => by
            by_cases c : b = dc
            · subst c
              rw [hdc6] at e
              cases e
              exact upd_same
            · rw [upd_ne c]
              exact m _ _ hb (by rw [neb c]; exact e)
          refine ⟨_, rfl, s, _, dx, _, _, rfl, hsb, T.cls_Sheet, T.no_Sheet_own_cues, rfl, dc, od, rfl, .inl ⟨kc', hdcb, ?_⟩⟩
          have hkl := pc6.length
          refine for_it walk_keys (fun i σ' H' => (∃ o2 o3 o4 o5, σ' = ([some (.ref s), some (.ref a), o2, o3, o4, o5, none, none, none] : L2.St)) ∧ Sm [lm] Hb H' ∧ ∃ ms, H' lm = some (.lst ms) ∧ Paired (RwP H') ms (PR.momF ((PR.cueRows ("start" : Str) cs).take i))) ⟨⟨_, _, _, _, rfl⟩, Sm.refl _ _, _, hlmb, .cons (.nil (tqb.1 _ _ ht6)) .nil⟩ (fun i σ' H' _ hP => ?_) (fun i x σ' H' H2 hi hP hY => ?_) (fun σ' H' hP => ?_)
          · exact hP.2.1 _ _ (one_ne hlmb hdcb (fun z => nomatch z)) hdcb
          · obtain ⟨⟨o2, o3, o4, o5, rfl⟩, m, ms, hms, pms⟩ := hP
            obtain ⟨rfl, key, vv, hkv, rfl⟩ := hY
            obtain ⟨c, hc, ekey, _⟩ := prd_getL pc6 hkv
            dsimp only at ekey
            subst ekey
            have mq : TQ K Hb H2 := tq_lm m hlmb
            have pr2 : Paired (KvR RwP H2) kr' (PR.rowsF ("start" : Str) cs) := Paired.mapP prb fun _ _ z => z.up mq.1
            have hs2' := m _ _ (one_ne hlmb hsb (fun z => nomatch z)) hsb
            have hdr2' := m _ _ (one_ne hlmb hdrb (fun z => nomatch z)) hdrb
            obtain ⟨vr, e1, e2⟩ := kv_val pr2 (n := c.1) (by rw [PR.rowsF_names]; exact PR.Good.mem (List.mem_of_getElem? hc))
            refine ⟨_, rfl, s, _, dx, _, _, rfl, hs2', T.cls_Sheet, T.no_Sheet_own_rows, rfl, _, rfl, dr, vr, rfl, .inl ⟨kr', Sum.inr c.1, .inl hdr2', rfl, e1.symm⟩, ?_⟩
            have hrow := PR.cue_row_at hok.good hc
            have hrl := PR.rowOf_len (PR.rowsF_rlen ("start" : Str) cs) c.1
            generalize PR.rowOf (PR.rowsF ("start" : Str) cs) c.1 = r at e2 hrow hrl
            obtain ⟨ra, rxs, rfl, hra, hrx⟩ := id e2
            have hrxl := hrx.length
            refine ⟨_, rfl, ra, _, rfl, .inr (SqT.of hra), _, _, rfl, rfl, 1, _, rfl, ⟨by decide, by decide, by omega, by omega⟩, ?_⟩
            have en : ((rxs.length : Int) + 1 - 1).toNat = r.length := by omega
            rw [en]
            refine for_it (walk_range (lo := 1) (n := r.length)) (fun j σ' H' => (∃ o2 o5, σ' = ([some (.ref s), some (.ref a), o2, some (.str c.1), some (.ref ra), o5, none, none, none] : L2.St)) ∧ Sm [lm] Hb H' ∧ Same H2 H2 ∧ RwP H' (.ref ra) r ∧ ∃ ms, H' lm = some (.lst ms) ∧ Paired (RwP H') ms (PR.addTo (PR.momF ((PR.cueRows ("start" : Str) cs).take i)) r j)) ⟨⟨_, _, rfl⟩, m, Same.refl _, e2, ms, hms, pms⟩ (fun _ _ _ _ _ => trivial) (fun j x σ' H' H3 hj hP hY => ?_) (fun σ' H' hP => ?_)
            · obtain ⟨⟨p2, p5, rfl⟩, m', _, hr', ms', hms', pms'⟩ := hP
              obtain ⟨rfl, hxx⟩ := hY
              have ej : (1 : Int) + (j : Nat) = ((j + 1 : Nat) : Int) := by omega
              dsimp only at hxx
              rw [ej] at hxx
              subst hxx
              obtain ⟨ra', rxs', era, hra', hrx'⟩ := id hr'
              cases era
              refine ⟨_, rfl, _, rfl, _, rfl, sl_row hra' hrx' fun v4 H4 s4 hv4 => ?_⟩
              have hs4' := s4 _ _ (m' _ _ (one_ne hlmb hsb (fun z => nomatch z)) hsb)
              have hms4 := s4 _ _ hms'
              have pms4 : Paired (RwP H4) ms' _ := Paired.mapP pms' fun _ _ z => z.up (TT.of s4)
              refine ⟨_, rfl, s, _, dx, _, _, rfl, hs4', T.cls_Sheet, T.no_Sheet_own_moments, rfl, _, _, hv4.dp, .lst (SqL.of hms4) (dpall (fun _ _ z => z.dp) pms4), rowD_shaped _, rowsD_shaped _, _, rfl, ?_⟩
              have bd : ms'.length < sizeLine := by
                have l1 := pms4.length
                have l2 := (PR.addTo_len (PR.momF ((PR.cueRows ("start" : Str) cs).take i)) r j).2
                have l3 := PR.momF_len (k := cs.length) ((PR.cueRows ("start" : Str) cs).take i) fun r hr => PR.cueRows_rlen _ _ r (List.mem_of_mem_take hr)
                have l4 : ((PR.cueRows ("start" : Str) cs).take i).length * cs.length ≤ 30 * 30 := Nat.mul_le_mul (by rw [List.length_take, PR.cueRows_len]; omega) (by omega)
                rw [sizeLine_eq]
                omega
              by_cases cc : r.take (j + 1) ∈ PR.addTo (PR.momF ((PR.cueRows ("start" : Str) cs).take i)) r j
              · rw [any_yes rowD_eqv cc]
                refine iteF ⟨⟨_, _, rfl⟩, m'.trans (Sm.of s4), Same.refl _, hr'.up (TT.of s4), ms', hms4, ?_⟩
                rw [PR.addTo_succ]
                unfold PR.addP
                rw [if_pos cc]
                exact pms4
              · rw [any_no rowD_eqv cc]
                have hr4 := hr'.up (TT.of s4)
                obtain ⟨ra5, rxs5, era5, hra5, hrx5⟩ := id hr4
                cases era5
                refine iteT ⟨_, rfl, s, _, dx, _, _, rfl, hs4', T.cls_Sheet, T.no_Sheet_own_moments, rfl, .inl ⟨rfl, _, SqL.of hms4⟩, _, rfl, _, rfl, _, rfl, sl_row hra5 hrx5 fun v6 H7 s7 hv6 => ?_⟩
                have hms7 := s7 _ _ hms4
                refine ⟨lm, _, _, rfl, rfl, hms7, bd, ?_⟩
                have tu : TT H7 (upd H7 lm (.lst (ms' ++ [v6]))) := TT.up hms7 (fun _ z => nomatch z)
                refine ⟨⟨_, _, rfl⟩, m'.trans ((Sm.of (s4.trans s7)).trans (Sm.up (by simp))), Same.refl _, hr4.up ((TT.of s7).trans tu), _, upd_same, ?_⟩
                rw [PR.addTo_succ]
                unfold PR.addP
                rw [if_neg cc]
                exact prd_app (Paired.mapP pms4 fun _ _ z => z.up ((TT.of s7).trans tu)) (.cons (hv6.up tu) .nil)
            · obtain ⟨⟨p2, p5, rfl⟩, m', _, hr', ms', hms', pms'⟩ := hP
              refine ⟨⟨_, _, _, _, rfl⟩, m', ms', hms', ?_⟩
              rw [List.take_add_one, hrow]
              show Paired (RwP H') ms' (PR.momF ((PR.cueRows ("start" : Str) cs).take i ++ [r]))
              rw [PR.momF_snoc]
              exact pms'
          · obtain ⟨⟨o2, o3, o4, o5, rfl⟩, m, ms, hms, pms⟩ := hP
            refine ⟨m _ _ (one_ne hlmb hdcb (fun z => nomatch z)) hdcb, ⟨_, _, _, _, rfl⟩, back m, ms, ?_, ?_⟩
            · rw [upd_ne nlc]; exact hms
            · rw [hkl, ← PR.cueRows_len ("start" : Str), List.take_length] at pms
              exact Paired.mapP pms fun _ _ z => z.up (TT.up (m _ _ (one_ne hlmb hdcb (fun z => nomatch z)) hdcb) (fun _ z => nomatch z))
        · rintro σ' H7 ⟨⟨o2, o3, o4, o5, rfl⟩, m7, ms, hms, pms⟩
          have tq7 : TQ K H6 H7 := tq_lm m7 hlm6
          have hs7 := m7 _ _ (one_ne hlm6 hs6 (fun z => nomatch z)) hs6
          have hdc7 := m7 _ _ (one_ne hlm6 hdc6 (fun z => nomatch z)) hdc6
          have hdr7 := m7 _ _ (one_ne hlm6 hdr6 (fun z => nomatch z)) hdr6
          have pc7 : Paired (KvC K H7) kc' cs := Paired.mapP pc6 fun _ _ z => z.tq tq7
          have pr7 : Paired (KvR RwP H7) kr' (PR.rowsF ("start" : Str) cs) := Paired.mapP pr6 fun _ _ z => z.up tq7.1
          have hml := pms.length
          refine ⟨_, rfl, s, _, dx, _, _, rfl, hs7, T.cls_Sheet, T.no_Sheet_own_moments, rfl, lm, _, rfl, .inl (SqL.of hms), _, _, rfl, rfl, _, rfl, ?_⟩
          have m07 : Sm [s] H H7 := fun b o hb e => m7 _ _ (fun hb' => by rw [List.mem_singleton] at hb'; subst hb'; rw [glm0] at e; cases e) (m06 _ _ hb e)
          rcases hin with ⟨h9, kE⟩ | ⟨hmom, k⟩
          · rw [decide_eq_true (by omega)]
            exact iteT (mk_atG T.xg_TooMany.oex T.xg_TooMany.no (rf_of (kE.up (sm0 m07))))
          rw [decide_eq_false (by omega)]
          refine iteF ?_
          refine fun dw gdw => ⟨_, rfl, s, _, dx, _, rfl, (AT.Same.up gdw) _ _ hs7, T.cls_Sheet, T.no_Sheet_own_ways, (by show 3 < 1000; decide), ?_⟩
          generalize hH8 : upd (upd H7 dw (.dT [])) s (HO.ins (cS K) dx _) = H8
          have nws : dw ≠ s := by rintro rfl; rw [hs7] at gdw; cases gdw
          have m8 : Sm [s] H7 H8 := by rw [← hH8]; exact (Sm.of (AT.Same.up gdw)).trans (Sm.up (by simp))
          have hs8 : H8 s = some (.ins (cS K) dx [("own_cues", .ref dc), ("own_rows", .ref dr), ("own_moments", .ref lm), ("own_ways", .ref dw)]) := by rw [← hH8]; exact upd_same
          have hdw8 : H8 dw = some (.dT []) := by rw [← hH8, upd_ne nws, upd_same]
          clear hH8
          have tq8 : TQ K H7 H8 := tq_s T m8 hs7
          have hlm8 := m8 _ _ (s_neQ hs7 hms) hms
          have hdc8 := m8 _ _ (s_neQ hs7 hdc7) hdc7
          have hdr8 := m8 _ _ (s_neQ hs7 hdr7) hdr7
          have pc8 : Paired (KvC K H8) kc' cs := Paired.mapP pc7 fun _ _ z => z.tq tq8
          have pr8 : Paired (KvR RwP H8) kr' (PR.rowsF ("start" : Str) cs) := Paired.mapP pr7 fun _ _ z => z.up tq8.1
          have pms8 : Paired (RwP H8) ms (PR.momC ("start" : Str) cs) := Paired.mapP pms fun _ _ z => z.up tq8.1
          have gdw0 : H dw = none := by
            cases e : H dw with
            | none => rfl
            | some o =>
              have e6 := m06 _ _ (by simpa using nws) e
              have e7 := m7 _ _ (fun hb => by rw [List.mem_singleton] at hb; subst hb; rw [glm0] at e; cases e) e6
              rw [e7] at gdw
              cases gdw
          have m08 : Sm [s] H H8 := fun b o hb e => m8 _ _ hb (m7 _ _ (fun hb' => by rw [List.mem_singleton] at hb'; subst hb'; rw [glm0] at e; cases e) (m06 _ _ hb e))
          have red := PR.momC_red ("start" : Str) cs
          have wts := PR.momC_wt szB ("start" : Str) cs hok.size
          have rl := PR.mom_rlen ("start" : Str) cs
          clear pc7 pr7 pms hdc7 hdr7 hs7 tq7 m8 tq8 hms pc6 pr6 m7
          generalize hmm : PR.momC ("start" : Str) cs = mm at pms8 red wts rl hmom hml
          refine ⟨_, rfl, s, _, dx, _, _, rfl, hs8, T.cls_Sheet, T.no_Sheet_own_moments, rfl, lm, ms, rfl, .inl (SqL.of hlm8), fun J hJ => ?_⟩
          obtain ⟨G, wk, hG0⟩ := en_walk hJ
          have lmS : ∀ {H' : Hp}, Sm [dw] H8 H' → H' lm = some (.lst ms) := fun {H'} m => m _ _ (one_ne hdw8 hlm8 (fun z => nomatch z)) hlm8
          have sS : ∀ {H' : Hp}, Sm [dw] H8 H' → H' s = some (.ins (cS K) dx [("own_cues", .ref dc), ("own_rows", .ref dr), ("own_moments", .ref lm), ("own_ways", .ref dw)]) := fun {H'} m => m _ _ (one_ne hdw8 hs8 (fun z => nomatch z)) hs8
          refine for_it wk (fun i σ' H' => (∃ o2 o3 o4 o5 o6 o7 o8, σ' = ([some (.ref s), some (.ref a), o2, o3, o4, o5, o6, o7, o8] : L2.St)) ∧ Sm [dw] H8 H' ∧ ∃ kvs, H' dw = some (.dT kvs) ∧ kvs.length ≤ 10 * i ∧ ∀ (i' j : Nat) a b, i' < i → mm[i']? = some a → mm[j]? = some b → ∃ v, valV kvs [Sum.inl (i' : Int), Sum.inl (j : Int)] = some v ∧ RwP H' v (PR.btw a b)) ⟨⟨_, _, _, _, _, _, _, rfl⟩, Sm.refl _ _, [], hdw8, Nat.zero_le _, fun i' j a b h => absurd h (Nat.not_lt_zero _)⟩ (fun i σ' H' _ hP => hG0 _ (by rw [lmS hP.2.1, hlm8])) (fun i x σ' H' H9 hi hP hY => ?_) (fun σ' H' hP => ?_)
          · obtain ⟨⟨o2, o3, o4, o5, o6, o7, o8, rfl⟩, m9, kvs, hdw9, hkl, hall⟩ := hP
            obtain ⟨Tp, x0, y0, rfl, hTp, rfl, e0, hy0⟩ := hY
            cases e0
            have hy0 : ms[i]? = some y0 := hy0
            obtain ⟨r, hr, hyr⟩ := prd_getL pms8 hy0
            have sT := AT.Same.up (o := .tup [.int (i : Nat), y0]) hTp
            refine ⟨Tp, _, rfl, SqT.of upd_same, rfl, _, _, rfl, _, _, rfl, rfl, ?_⟩
            generalize upd H' Tp (.tup [.int (i : Nat), y0]) = H9 at sT ⊢
            have m10 := m9.trans (Sm.of sT)
            have hdw10 := sT _ _ hdw9
            have hall10 : ∀ (i' j : Nat) a b, i' < i → mm[i']? = some a → mm[j]? = some b → ∃ v, valV kvs [Sum.inl (i' : Int), Sum.inl (j : Int)] = some v ∧ RwP H9 v (PR.btw a b) := fun i' j a b h1 h2 h3 => by
              obtain ⟨v, z1, z2⟩ := hall i' j a b h1 h2 h3
              exact ⟨v, z1, z2.up (TT.of sT)⟩
            have hrm := List.mem_of_getElem? hr
            have hi8 : i < 8 := by omega
            refine ⟨_, rfl, s, _, dx, _, _, rfl, sS m10, T.cls_Sheet, T.no_Sheet_own_moments, rfl, lm, ms, rfl, .inl (SqL.of (lmS m10)), fun J2 hJ2 => ?_⟩
            obtain ⟨G2, wk2, hG2⟩ := en_walk hJ2
            refine for_it wk2 (fun j σ' H' => (∃ o2 o3 o5 o7 o8, σ' = ([some (.ref s), some (.ref a), o2, o3, some y0, o5, some (.int (i : Nat)), o7, o8] : L2.St)) ∧ Sm [dw] H8 H' ∧ ∃ kvs, H' dw = some (.dT kvs) ∧ kvs.length ≤ 10 * i + j ∧ ∀ (i' j' : Nat) a b, i' < i ∨ i' = i ∧ j' < j → mm[i']? = some a → mm[j']? = some b → ∃ v, valV kvs [Sum.inl (i' : Int), Sum.inl (j' : Int)] = some v ∧ RwP H' v (PR.btw a b)) ⟨⟨_, _, _, _, _, rfl⟩, m10, kvs, hdw10, hkl, fun i' j' a b h => hall10 i' j' a b (by omega)⟩ (fun j σ' H' _ hP => hG2 _ (by rw [lmS hP.2.1, lmS m10])) (fun j x σ' H' H11 hj hP hY => ?_) (fun σ' H' hP => ?_)
            · obtain ⟨⟨p2, p3, p5, p7, p8, rfl⟩, m11, kvs1, hdw11, hkl1, hall1⟩ := hP
              obtain ⟨Tq, x1, y1, rfl, hTq, rfl, e1, hy1⟩ := hY
              cases e1
              have hy1 : ms[j]? = some y1 := hy1
              obtain ⟨r1, hr1, hyr1⟩ := prd_getL pms8 hy1
              have sU := AT.Same.up (o := .tup [.int (j : Nat), y1]) hTq
              refine ⟨Tq, _, rfl, SqT.of upd_same, rfl, _, _, rfl, _, _, rfl, rfl, ?_⟩
              generalize upd H' Tq (.tup [.int (j : Nat), y1]) = H12 at sU ⊢
              have m12 := m11.trans (Sm.of sU)
              have tq12 : TQ K H8 H12 := tq_dw m12 hdw8
              have hr1m := List.mem_of_getElem? hr1
              have rl0 := rl r hrm
              have rl1 := rl r1 hr1m
              refine ⟨_, rfl, _, r, rfl, hyr.up tq12.1, (by omega), fun v13 H13 s13 hv13 => ?_⟩
              refine ⟨_, rfl, v13, y1, PR.inv r, r1, cs.length, rfl, hv13, (hyr1.up tq12.1).up (TT.of s13), PR.red_inv (red r hrm), (wts r hrm).inv szB, wts r1 hr1m, (by omega), (by rw [PR.inv_len]; omega), fun v14 H14 s14 hv14 => ?_⟩
              have m14 := m12.trans (Sm.of (s13.trans s14))
              refine ⟨_, rfl, s, _, dx, _, _, rfl, sS m14, T.cls_Sheet, T.no_Sheet_own_ways, rfl, _, rfl, _, rfl, (by show 2 ≤ sizeLine; decide), fun tk htk => ?_⟩
              have s15 := AT.Same.up (o := .tup [.int (i : Nat), .int (j : Nat)]) htk
              have m15 := m14.trans (Sm.of s15)
              have s1215 := (sU.trans (s13.trans s14)).trans s15
              refine ⟨dw, _, rfl, DPut.t (k := [Sum.inl (i : Int), Sum.inl (j : Int)]) (s1215 _ _ hdw11) upd_same (by rw [sizeLine_eq]; omega), ?_⟩
              generalize hH15 : upd H14 tk (.tup [.int (i : Nat), .int (j : Nat)]) = H15 at s15 m15 s1215
              have tu : TT H15 (upd H15 dw (.dT (putK kvs1 [Sum.inl (i : Int), Sum.inl (j : Int)] v14))) := TT.up (s1215 _ _ hdw11) (fun _ z => nomatch z)
              refine ⟨⟨_, _, _, _, _, rfl⟩, m15.trans (Sm.up (by simp)), _, upd_same, ?_, fun i' j' a' b' hlt ha' hb' => ?_⟩
              · have := length_putK kvs1 [Sum.inl (i : Int), Sum.inl (j : Int)] v14
                omega
              · rw [valV_put]
                by_cases cc : i' = i ∧ j' = j
                · obtain ⟨rfl, rfl⟩ := cc
                  rw [hr] at ha'
                  rw [hr1] at hb'
                  cases ha'
                  cases hb'
                  rw [if_pos rfl]
                  exact ⟨v14, rfl, (hv14.up (TT.of s15)).up tu⟩
                · rw [if_neg (fun z => cc (by
                    simp only [List.cons.injEq, Sum.inl.injEq, and_true] at z
                    omega))]
                  obtain ⟨v, z1, z2⟩ := hall1 i' j' a' b' (by omega) ha' hb'
                  exact ⟨v, z1, (z2.up (TT.of s1215)).up tu⟩
            · obtain ⟨⟨p2, p3, p5, p7, p8, rfl⟩, m11, kvs1, hdw11, hkl1, hall1⟩ := hP
              refine ⟨⟨_, _, _, _, _, _, _, rfl⟩, m11, kvs1, hdw11, (by omega), fun i' j' a' b' hlt ha' hb' => hall1 i' j' a' b' ?_ ha' hb'⟩
              have := (List.getElem?_eq_some_iff.mp hb').1
              omega
          · obtain ⟨⟨o2, o3, o4, o5, o6, o7, o8, rfl⟩, m9, kvs, hdw9, _, hall⟩ := hP
            have tq9 : TQ K H8 H' := tq_dw m9 hdw8
            refine k _ (fun b o hb e => m9 _ _ (fun hb' => by rw [List.mem_singleton] at hb'; subst hb'; rw [gdw0] at e; cases e) (m08 _ _ hb e)) ⟨⟨dx, dc, dr, lm, dw, ⟨sS m9, ndd, ⟨kc', .inl (m9 _ _ (one_ne hdw8 hdc8 (fun z => nomatch z)) hdc8), Paired.mapP pc8 fun _ _ z => z.tq tq9⟩, kr', m9 _ _ (one_ne hdw8 hdr8 (fun z => nomatch z)) hdr8, Paired.mapP pr8 fun _ _ z => z.up tq9.1⟩, ⟨ms, lmS m9, ?_⟩, kvs, hdw9, ?_⟩, dx, _, dc, kc', sS m9, rfl, m9 _ _ (one_ne hdw8 hdc8 (fun z => nomatch z)) hdc8⟩
            · rw [hmm]
              exact Paired.mapP pms8 fun _ _ z => z.up tq9.1
            · rw [hmm]
              intro i' j a b ha hb
              exact hall i' j a b (by rw [hml]; exact (List.getElem?_eq_some_iff.mp ha).1) ha hb
end
end K34

set_option maxHeartbeats 4000000
namespace K34
open PySem PySem.Spec PyProof.Rows L2 AT
section
variable {P : Program} {w : World} {K : PySem.W.Frag} {mg : Str → Option Value} {base : Heap}
abbrev momS (cs : List Cue) : List Row := PR.momC ("start" : Str) cs
theorem IsSheet.up {H H' : Hp} {s : Addr} {cs : List Cue} (h : IsSheet K H s cs) (sm : Same H H') : IsSheet K H' s cs := by
  obtain ⟨⟨dx, dc, dr, lm, dw, hb, ⟨ms, h1, h2⟩, kvs, h3, h4⟩, dx', fs', dc', kc', g1, g2, g3⟩ := h
  refine ⟨⟨dx, dc, dr, lm, dw, hb.same sm, ⟨ms, sm _ _ h1, Paired.mapP h2 fun _ _ z => z.up (TT.of sm)⟩, kvs, sm _ _ h3, fun i j a b ha hb => ?_⟩, dx', fs', dc', kc', sm _ _ g1, g2, sm _ _ g3⟩
  obtain ⟨v, z1, z2⟩ := h4 i j a b ha hb
  exact ⟨v, z1, z2.up (TT.of sm)⟩
/-- a sheet asked -/
def ShtOk (K : PySem.W.Frag) (H : Hp) (s : Addr) (cs : List Cue) : Prop := IsSheet K H s cs ∧ CuesOk cs ∧ (momS cs).length ≤ 8
theorem ShtOk.up {H H' : Hp} {s : Addr} {cs : List Cue} (h : ShtOk K H s cs) (sm : Same H H') : ShtOk K H' s cs := ⟨h.1.up sm, h.2⟩
theorem ShtOk.at {H : Hp} {s : Addr} {cs : List Cue} (h : ShtOk K H s cs) : ∃ dx fs lm ms, H s = some (.ins (cS K) dx fs) ∧ fs.lookup ("own_moments" : Str) = some (.ref lm) ∧ (∀ m : Str, m ≠ "own_cues" → m ≠ "own_rows" → m ≠ "own_moments" → m ≠ "own_ways" → fs.lookup m = none) ∧ H lm = some (.lst ms) ∧ Paired (RwP H) ms (momS cs) := by
  obtain ⟨⟨⟨dx, dc, dr, lm, dw, hb, ⟨ms, h1, h2⟩, _⟩, _⟩, _⟩ := h
  refine ⟨dx, _, lm, ms, hb.ins, rfl, fun m n1 n2 n3 n4 => ?_, h1, h2⟩
  simp only [List.lookup, beq_false_of_ne n1, beq_false_of_ne n2, beq_false_of_ne n3, beq_false_of_ne n4]
theorem rowD_nilY {r : Row} (h : r = []) : PyData.eqv (rowD r) (.tuple []) = true := by subst h; rfl
theorem rowD_nilN {r : Row} (h : r ≠ []) : PyData.eqv (rowD r) (.tuple []) = false := by
  have e := rowD_eqv r []
  rw [decide_eq_false h] at e
  exact e
/-- a distance, or None -/
def AmtOr (K : PySem.W.Frag) (H : Hp) (Q : VK) : Option Rat → Prop
  | some q => ∀ p H', Same H H' → H p = none → IsQ K H' p q → Q (.ref p) H'
  | none => ∀ H', Same H H' → Q .non H'
theorem btw_bits {cs : List Cue} {a b : Row} (h : CuesOk cs) (ha : a ∈ momS cs) (hb : b ∈ momS cs) : ∀ m ∈ PR.btw a b, Bits 1300 m.2 := by
  have w1 := PR.momC_wt szB ("start" : Str) cs h.size a ha
  have w2 := PR.momC_wt szB ("start" : Str) cs h.size b hb
  have := h.len
  exact wt_bits (w1.btw szB w2) (by omega)
theorem dist_bits {cs : List Cue} {a b : Row} {u : Bool} {q : Rat} (h : CuesOk cs) (ha : a ∈ momS cs) (hb : b ∈ momS cs) (e : PR.dist u a b = some q) : Bits 1300 q := by
  have z := btw_bits h ha hb
  unfold PR.dist at e
  generalize PR.btw a b = r at e z
  match r, e, z with
  | [], e, _ => cases e; exact ⟨by decide +kernel, by decide +kernel⟩
  | [m], e, z =>
    simp only at e
    split at e
    · cases e
      exact z m (by simp)
    · cases e
  | _ :: _ :: _, e, _ => cases e
end
end K34

set_option maxHeartbeats 4000000
namespace K34
open PySem PySem.Spec PyProof.Rows L2 AT
section
variable {P : Program} {w : World} {K : PySem.W.Frag} {mg : Str → Option Value} {base : Heap}
theorem inV3_at {v : V} {n : Nat} (h : inV3 v 0 ((n : Int) - 1) = true) : ∃ i : Nat, v = .int i ∧ i < n := by
  cases v with
  | int i =>
    simp only [inV3, Bool.and_eq_true, decide_eq_true_eq] at h
    exact ⟨i.toNat, by rw [Int.toNat_of_nonneg h.1], by omega⟩
  | _ => simp [inV3] at h
theorem inV3_of {i n : Nat} (h : i < n) : inV3 (.int (i : Int)) 0 ((n : Int) - 1) = true := by
  simp only [inV3, Bool.and_eq_true, decide_eq_true_eq]
  omega
theorem unitV_at {v : V} (h : unitV v = true) : ∃ u, v = .str (uS u) := by
  cases v with
  | str z =>
    simp only [unitV, Bool.or_eq_true, decide_eq_true_eq] at h
    rcases h with rfl | rfl
    · exact ⟨true, rfl⟩
    · exact ⟨false, rfl⟩
  | _ => cases h
/-! ### lines -/
def dAt (cs : List Cue) (u : Bool) (a : Row) (j : Nat) : Option Rat := match (momS cs)[j]? with
  | some b => PR.dist u a b
  | none => none
theorem dAt_at {cs : List Cue} {u : Bool} {a b : Row} {j : Nat} (h : (momS cs)[j]? = some b) : dAt cs u a j = PR.dist u a b := by unfold dAt; rw [h]
def lineOf (cs : List Cue) (u : Bool) (a : Row) : List Nat := PR.places (dAt cs u a) (momS cs).length
def FnE (K : PySem.W.Frag) (H : Hp) (v : V) (z : Nat × Rat) : Prop := ∃ t p, v = .ref t ∧ H t = some (.tup [.int (z.1 : Nat), .ref p]) ∧ IsQ K H p z.2
theorem FnE.tq {H H' : Hp} {v : V} {z : Nat × Rat} (h : FnE K H v z) (s : TQ K H H') : FnE K H' v z := by
  obtain ⟨t, p, e, h1, h2⟩ := h
  exact ⟨t, p, e, s.1 _ _ h1, h2.tq s⟩
theorem prd_drop {α β : Type} {F : α → β → Prop} : ∀ {l : List α} {m : List β}, Paired F l m → ∀ n, Paired F (l.drop n) (m.drop n)
  | _, _, .nil, n => by rw [List.drop_nil, List.drop_nil]; exact .nil
  | _, _, .cons h t, 0 => .cons h t
  | _, _, .cons h t, n + 1 => prd_drop t n
end
end K34

set_option maxHeartbeats 4000000
namespace K34
open PySem PySem.Spec PyProof.Rows L2 AT
theorem pe_fldK {X : Cx} {K : PySem.W.Frag} {e : Expr} {f : Str} {ta : TE} {pos : Pos} (hK : X.K = K) (he : PE X e ta) (hb : attributeBase e f X.env (eval e X.env) = eval e X.env) : PE X (.Attribute e f pos) (tFld K ta f) := by
  subst hK
  exact pe_fld he hb
/-! ### told rows: lists of (unit, amount) -/
def MbT (K : PySem.W.Frag) (H : Hp) (v : V) (m : Bool × Rat) : Prop := ∃ t p, v = .ref t ∧ H t = some (.tup [.str (uS m.1), .ref p]) ∧ IsQ K H p m.2
def RwT (K : PySem.W.Frag) (H : Hp) (D : Addr) (r : Row) : Prop := ∃ xs, H D = some (.lst xs) ∧ Paired (MbT K H) xs r
abbrev rowN (cs : List Cue) (z : Str) : Row := PR.rowOf (PR.rowsF ("start" : Str) cs) z
abbrev nmsS (cs : List Cue) : List Str := ("start" : Str) :: cs.map (·.1)
abbrev inSh (cs : List Cue) (v : V) : Bool := inRw (PR.rowsF ("start" : Str) cs) v
theorem inSh_str (cs : List Cue) (z : Str) : inSh cs (.str z) = decide (z ∈ nmsS cs) := by
  show decide (z ∈ (PR.rowsF ("start" : Str) cs).map (·.1)) = _
  rw [PR.rowsF_names]
section
variable {P : Program} {w : World} {K : PySem.W.Frag} {mg : Str → Option Value} {base : Heap}
theorem MbT.tq {H H' : Hp} {v : V} {m : Bool × Rat} (h : MbT K H v m) (s : TQ K H H') : MbT K H' v m := by
  obtain ⟨t, p, e, h1, h2⟩ := h
  exact ⟨t, p, e, s.1 _ _ h1, h2.tq s⟩
theorem RwT.up {H H' : Hp} {D : Addr} {r : Row} (h : RwT K H D r) (s : Same H H') : RwT K H' D r := by
  obtain ⟨xs, h1, h2⟩ := h
  exact ⟨xs, s _ _ h1, Paired.mapP h2 fun _ _ z => z.tq (TQ.of s)⟩
theorem ShtOk.at2 {H : Hp} {s : Addr} {cs : List Cue} (h : ShtOk K H s cs) : ∃ dx fs lm ms dr kvs, H s = some (.ins (cS K) dx fs) ∧ fs.lookup ("own_moments" : Str) = some (.ref lm) ∧ fs.lookup ("own_rows" : Str) = some (.ref dr) ∧
    (∀ m : Str, m ≠ "own_cues" → m ≠ "own_rows" → m ≠ "own_moments" → m ≠ "own_ways" → fs.lookup m = none) ∧ H lm = some (.lst ms) ∧ Paired (RwP H) ms (momS cs) ∧ H dr = some (.dK kvs) ∧ Paired (KvR RwP H) kvs (PR.rowsF ("start" : Str) cs) := by
  obtain ⟨⟨⟨dx, dc, dr, lm, dw, hb, ⟨ms, h1, h2⟩, _⟩, _⟩, _⟩ := h
  obtain ⟨kvs, h3, h4⟩ := hb.rows
  refine ⟨dx, _, lm, ms, dr, kvs, hb.ins, rfl, rfl, fun m n1 n2 n3 n4 => ?_, h1, h2, h3, h4⟩
  simp only [List.lookup, beq_false_of_ne n1, beq_false_of_ne n2, beq_false_of_ne n3, beq_false_of_ne n4]
theorem rowN_wt {cs : List Cue} (h : CuesOk cs) (z : Str) : WtB cs.length (rowN cs z) := PR.rowOf_wt (PR.rowsF_wt szB ("start" : Str) cs h.size) z
theorem rowN_len {cs : List Cue} (z : Str) : (rowN cs z).length ≤ cs.length := PR.rowOf_len (PR.rowsF_rlen ("start" : Str) cs) z
theorem rowN_red {cs : List Cue} (z : Str) : PR.Red (rowN cs z) := PR.rowOf_red (PR.rowsF_red _ _) _
theorem rowN_mom {cs : List Cue} (h : CuesOk cs) {z : Str} (hz : z ∈ nmsS cs) : rowN cs z ∈ momS cs := by
  rcases List.mem_cons.mp hz with rfl | hz
  · have e : rowN cs "start" = [] := by
      obtain ⟨t, e⟩ := PR.rowsF_cons ("start" : Str) cs
      show PR.rowOf (PR.rowsF ("start" : Str) cs) "start" = []
      rw [e]
      unfold PR.rowOf
      rw [List.find?_cons_of_pos (by simp)]
      rfl
    rw [e]
    exact PR.mem_momF.mpr (.inl rfl)
  · obtain ⟨c, hc, rfl⟩ := List.mem_map.mp hz
    obtain ⟨i, hi⟩ := List.mem_iff_getElem?.mp hc
    exact PR.mom_self (List.mem_of_getElem? (PR.cue_row_at h.good hi))
theorem btwN_bits {cs : List Cue} (h : CuesOk cs) (a b : Str) : ∀ m ∈ PR.btw (rowN cs a) (rowN cs b), Bits 1300 m.2 := by
  have := h.len
  exact wt_bits ((rowN_wt h a).btw szB (rowN_wt h b)) (by omega)
theorem prd_mem {α β : Type} {F G : α → β → Prop} : ∀ {l : List α} {m : List β}, Paired F l m → (∀ a b, a ∈ l → F a b → G a b) → Paired G l m
  | _, _, .nil, _ => .nil
  | _, _, .cons h t, k => .cons (k _ _ (by simp) h) (prd_mem t fun a b ha => k a b (List.mem_cons_of_mem _ ha))
theorem prd_memL {α β : Type} {F : α → β → Prop} {l : List α} {m : List β} (h : Paired F l m) {a : α} (ha : a ∈ l) : ∃ b, F a b := by
  obtain ⟨i, hi⟩ := List.mem_iff_getElem?.mp ha
  obtain ⟨b, _, hb⟩ := prd_getL h hi
  exact ⟨b, hb⟩
def spTold (K : PySem.W.Frag) : Sp := fun vs H Q _ => ∃ v r, vs = [v] ∧ RwP H v r ∧ (∀ m ∈ r, Bits 1300 m.2) ∧ r.length < 1000 ∧ ∀ D H', Same H H' → H D = none → RwT K H' D r → Q (.ref D) H'
theorem sc_told_row : FnScope ["row", "unit", "top", "bottom"] ["row"] (defScope s_told_row) := ⟨rfl, rfl, rfl, by decide +kernel, rfl, by decide +kernel, by decide +kernel⟩
theorem ok_told_row (T : Tx K mg base) : Ok P w K mg base 5 (d_told_row.loc K) ["row"] (spTold K) := by
  refine mk_ok (k := 4) T.f_told_row sc_told_row (fun _ _ _ _ _ _ us hl => match us, hl with | [_], _ => rfl) (fun vs H Q E h => ?_) (fun cdv A outer s H vs Q E hr h => ?_)
  · obtain ⟨v, r, rfl, _⟩ := h
    rfl
  · obtain ⟨v, r, rfl, ⟨a, xs, rfl, ha, hx⟩, hb, hlen, k⟩ := h
    refine ⟨_, (pss_one (ps_ret (pe_lc (own := [("unit", 1), ("top", 2), ("bottom", 3)]) (g := (gTup K 3 (gCons (gName 1) (gCons (gName 2) (gCons (gName 3) gNil))))) (tt := tYes) (by rfl) sc_told_row.nd (pi_tup (pv 0)) (blkOk_by (own := [("unit", 1), ("top", 2), ("bottom", 3)]) (N := ["row", "unit", "top", "bottom"]) (sc := defScope s_told_row) (by decide +kernel)) (fun _ _ _ _ _ => (pg_tup rfl (pgs_cons (pg_name (i := 1) sc_told_row.nd rfl (Or.inl rfl)) (pgs_cons (pg_name (i := 2) sc_told_row.nd rfl (Or.inl rfl)) (pgs_cons (pg_name (i := 3) sc_told_row.nd rfl (Or.inl rfl)) pgs_nil))))) (fun _ _ _ _ _ => pts_nil) (fun _ _ _ _ _ => (pe_tup (pa_cons (pv 1) (pa_cons (ok_make T.mkr_Amount (ok_Amount_init_ T) (hr.mono (by decide)) rfl T.g_Amount passL (pa_cons (pv 2) (pa_cons (pv 3) pa_nil))) pa_nil))))))), ?_⟩
    have hl := hx.length
    have hsz : sizeLine = 16777216 := sizeLine_eq
    refine ⟨_, rfl, a, rfl, ⟨_, SqT.of ha⟩, fun D hD => ?_⟩
    refine lc_tup (K := K) (a := a) (xs := xs) (fun i H' => Same H H' ∧ ∃ acc, H' D = some (.lst acc) ∧ Paired (MbT K H') acc (r.take i)) ⟨AT.Same.up hD, [], upd_same, .nil⟩ (fun i H' _ hP => SqT.of (hP.1 _ _ ha)) (fun i x H' hxi hP => ?_) (fun H' hP => ?_)
    · obtain ⟨sm, acc, hacc, hp⟩ := hP
      obtain ⟨m, hm, t, rfl, ht⟩ := prd_getL hx hxi
      have hlu := hp.length
      rw [List.length_take] at hlu
      refine ⟨t, _, rfl, SqT.of (sm _ _ ht), rfl, _, _, rfl, _, _, rfl, _, _, rfl, rfl, rfl, ?_⟩
      dsimp only [tYes]
      refine iteT ⟨_, rfl, _, rfl, _, rfl, mk_amtQ (hb m (List.mem_of_getElem? hm)) (by decide) fun p H3 s3 gp hp3 => ⟨(by show 2 ≤ sizeLine; decide), fun t2 gt2 => ?_⟩⟩
      have sT := AT.Same.up (o := .tup [.str (uS m.1), .ref p]) gt2
      have hacc3 := sT _ _ (s3 _ _ hacc)
      refine ⟨acc, hacc3, (by omega), AT.Same.new (sm.trans (s3.trans sT)) hD, acc ++ [.ref t2], upd_same, ?_⟩
      rw [List.take_add_one, hm]
      have tu : TQ K (upd H3 t2 (.tup [.str (uS m.1), .ref p])) (upd (upd H3 t2 (.tup [.str (uS m.1), .ref p])) D (.lst (acc ++ [.ref t2]))) := TQ.up hacc3 (fun _ z => nomatch z) (fun _ _ z => nomatch z)
      exact prd_app (Paired.mapP hp fun _ _ z => z.tq ((TQ.of (s3.trans sT)).trans tu)) (.cons ⟨t2, p, rfl, tu.1 _ _ upd_same, (hp3.up sT).tq tu⟩ .nil)
    · obtain ⟨sm, acc, hacc, hp⟩ := hP
      rw [hl, List.take_length] at hp
      exact k D H' sm hD ⟨acc, hacc, hp⟩
def spNeed (K : PySem.W.Frag) : Sp := fun vs H Q E => ∃ s cs v, vs = [.ref s, v] ∧ ShtOk K H s cs ∧ AnyV K H v ∧ (inSh cs v = true → Q .non H) ∧ (inSh cs v = false → Rf K "UnknownCue" "label" v H E)
theorem sc_Sheet_need : FnScope ["self", "name"] ["self", "name"] (defScope s_Sheet_need) := ⟨rfl, rfl, rfl, by decide +kernel, rfl, by decide +kernel, by decide +kernel⟩
theorem ok_Sheet_need (T : Tx K mg base) : Ok P w K mg base 3 (d_Sheet_need.loc K) ["self", "name"] (spNeed K) := by
  refine mk_ok (k := 2) T.f_Sheet_need sc_Sheet_need (fun _ _ _ _ _ _ us hl => match us, hl with | [_, _], _ => rfl) (fun vs H Q E h => ?_) (fun cdv A outer s H vs Q E hr h => ?_)
  · obtain ⟨s, cs, v, rfl, _⟩ := h
    rfl
  · obtain ⟨s, cs, v, rfl, hs, hv, k1, k2⟩ := h
    refine ⟨_, (pss_one (ps_if (pt_cmpR (op_notInO T.m_Sheet_contains_ (ok_Sheet_contains_ T) (hr.mono (by decide)) passL) (pv 1) (pv 0) (by rfl)) (pss_one (ps_rsG rfl (mx_UnknownCue T (hr.mono (by decide))) (takes_of rfl rfl rfl rfl) rfl (pv 1))) pss_nil)), ?_⟩
    obtain ⟨dx, fs, lm, ms, dr, kvs, h1, h2, h3, hno, h4, h5, h6, h7⟩ := hs.at2
    refine ⟨_, rfl, _, rfl, s, dx, _, rfl, h1, s, dx, _, dr, kvs, _, v, rfl, h1, h3, .inl h6, h7, hv, _, rfl, _, rfl, ?_⟩
    cases e : inRw (PR.rowsF ("start" : Str) cs) v with
    | true => exact iteF (k1 e)
    | false => exact iteT ⟨_, rfl, mk_atG T.xg_UnknownCue.oex T.xg_UnknownCue.no (rf_of (k2 e))⟩
def spRowM (K : PySem.W.Frag) : Sp := fun vs H Q E => ∃ s cs v, vs = [.ref s, v] ∧ ShtOk K H s cs ∧ AnyV K H v ∧
  ((inSh cs v = false ∧ Rf K "UnknownCue" "label" v H E) ∨ ∃ z, v = .str z ∧ z ∈ nmsS cs ∧ ∀ D H', Same H H' → H D = none → RwT K H' D (rowN cs z) → Q (.ref D) H')
theorem sc_Sheet_row : FnScope ["self", "name"] ["self", "name"] (defScope s_Sheet_row) := ⟨rfl, rfl, rfl, by decide +kernel, rfl, by decide +kernel, by decide +kernel⟩
theorem ok_Sheet_row (T : Tx K mg base) : Ok P w K mg base 6 (d_Sheet_row.loc K) ["self", "name"] (spRowM K) := by
  refine mk_ok (k := 5) T.f_Sheet_row sc_Sheet_row (fun _ _ _ _ _ _ us hl => match us, hl with | [_, _], _ => rfl) (fun vs H Q E h => ?_) (fun cdv A outer s H vs Q E hr h => ?_)
  · obtain ⟨s, cs, v, rfl, _⟩ := h
    rfl
  · obtain ⟨s, cs, v, rfl, hs, hv, hc⟩ := h
    refine ⟨_, (pss_cons (ps_expr (ok_meth T.cls_Sheet T.m_Sheet_need (ok_Sheet_need T) (hr.mono (by decide)) (passE rfl rfl rfl rfl) (pv 0) (pa_cons (pv 1) pa_nil)))
      (pss_one (ps_ret (ok_call (ok_told_row T) (hr.mono (by decide)) rfl T.g_told_row passL (pa_cons (pe_dget (by exact hu_of hr) (pe_fld (pv 0) rfl) (pv 1) (fun _ _ => rfl)) pa_nil))))), ?_⟩
    obtain ⟨dx, fs, lm, ms, dr, kvs, h1, h2, h3, hno, h4, h5, h6, h7⟩ := hs.at2
    have n1 : fs.lookup ("need" : Str) = none := hno _ (by decide) (by decide) (by decide) (by decide)
    rcases hc with ⟨e, k⟩ | ⟨z, rfl, hz, k⟩
    · exact ⟨_, rfl, s, dx, _, rfl, h1, n1, _, rfl, s, cs, v, rfl, hs, hv, (fun q => by rw [e] at q; cases q), fun _ => k⟩
    · have hi : inSh cs (.str z) = true := by rw [inSh_str]; exact decide_eq_true hz
      refine ⟨_, rfl, s, dx, _, rfl, h1, n1, _, rfl, s, cs, _, rfl, hs, hv, fun _ => ?_, (fun q => by rw [hi] at q; cases q)⟩
      obtain ⟨vr, e1, e2⟩ := kv_val h7 (n := z) (by rw [PR.rowsF_names]; exact hz)
      have hl := hs.2.1.len
      refine ⟨_, rfl, s, _, dx, _, _, rfl, h1, T.cls_Sheet, T.no_Sheet_own_rows, h3, _, rfl, dr, vr, rfl, .inl ⟨kvs, Sum.inr z, .inl h6, rfl, e1.symm⟩, vr, _, rfl, e2, wt_bits (rowN_wt hs.2.1 z) (by omega), Nat.lt_of_le_of_lt (rowN_len z) (by omega), k⟩
end
end K34

set_option maxHeartbeats 4000000
namespace K34
open PySem PySem.Spec PyProof.Rows L2 AT
/-! ### told cues -/
def CuT (K : PySem.W.Frag) (H : Hp) (v : V) (c : Cue) : Prop := ∃ t p, v = .ref t ∧ H t = some (.tup [.str c.1, .str c.2.1, .str (uS c.2.2.1), .ref p]) ∧ IsQ K H p c.2.2.2
section
variable {P : Program} {w : World} {K : PySem.W.Frag} {mg : Str → Option Value} {base : Heap}
theorem CuT.tq {H H' : Hp} {v : V} {c : Cue} (h : CuT K H v c) (s : TQ K H H') : CuT K H' v c := by
  obtain ⟨t, p, e, h1, h2⟩ := h
  exact ⟨t, p, e, s.1 _ _ h1, h2.tq s⟩
theorem ShtOk.at3 {H : Hp} {s : Addr} {cs : List Cue} (h : ShtOk K H s cs) : ∃ dx fs dc kvs dr kr, H s = some (.ins (cS K) dx fs) ∧ fs.lookup ("own_cues" : Str) = some (.ref dc) ∧ fs.lookup ("own_rows" : Str) = some (.ref dr) ∧
    (∀ m : Str, m ≠ "own_cues" → m ≠ "own_rows" → m ≠ "own_moments" → m ≠ "own_ways" → fs.lookup m = none) ∧ H dc = some (.dK kvs) ∧ Paired (KvC K H) kvs cs ∧ H dr = some (.dK kr) ∧ Paired (KvR RwP H) kr (PR.rowsF ("start" : Str) cs) := by
  obtain ⟨⟨⟨dx, dc, dr, lm, dw, hb, ⟨ms, h1, h2⟩, _⟩, dx', fs', dc', kc', g1, g2, g3⟩, _⟩ := h
  have e := hb.ins
  rw [g1] at e
  cases e
  have e2 : dc' = dc := by
    have z : some (V.ref dc) = some (V.ref dc') := g2
    cases z
    rfl
  subst e2
  obtain ⟨kvs, g4, g5⟩ := hb.cues
  obtain ⟨kr, g6, g7⟩ := hb.rows
  have e3 : kvs = kc' := by
    rcases g4 with z | ⟨o, z⟩
    · rw [g3] at z
      cases z
      rfl
    · rw [g3] at z
      cases z
  subst e3
  refine ⟨dx, _, dc', kvs, dr, kr, g1, rfl, rfl, fun m n1 n2 n3 n4 => ?_, g3, g5, g6, g7⟩
  simp only [List.lookup, beq_false_of_ne n1, beq_false_of_ne n2, beq_false_of_ne n3, beq_false_of_ne n4]
theorem cue_val {H : Hp} : ∀ {kvs : List (Key × V)} {cs : List Cue}, Paired (KvC K H) kvs cs → (cs.map (·.1)).Nodup → ∀ {c : Cue}, c ∈ cs → ∃ v, valV kvs (Sum.inr c.1) = some v ∧ ∃ t p, v = .ref t ∧ H t = some (.tup [.str c.2.1, .str (uS c.2.2.1), .ref p]) ∧ IsQ K H p c.2.2.2
  | _, _, .nil, _, c, h => by cases h
  | _, _, .cons (a := kv) (b := x) h t, hn, c, hc => by
    rw [List.map_cons, List.nodup_cons] at hn
    rcases List.mem_cons.mp hc with rfl | hc
    · obtain ⟨e, z⟩ := h
      exact ⟨kv.2, valV_pos e, z⟩
    · obtain ⟨v, e1, e2⟩ := cue_val t hn.2 hc
      refine ⟨v, ?_, e2⟩
      rw [valV_neg (by rw [h.1]; exact fun z => hn.1 (by rw [Sum.inr.inj z]; exact List.mem_map_of_mem hc))]
      exact e1
theorem CuesOk.nd {cs : List Cue} (h : CuesOk cs) : (cs.map (·.1)).Nodup := (List.nodup_cons.mp h.good.nodup).2
theorem keys_of {H : Hp} : ∀ {kvs : List (Key × V)} {cs : List Cue}, Paired (KvC K H) kvs cs → (kvs.map fun kv => kV kv.1) = (cs.map (·.1)).map V.str
  | _, _, .nil => rfl
  | _, _, .cons (a := kv) h t => by
    rw [List.map_cons, List.map_cons, List.map_cons, keys_of t, h.1]
    rfl
/-! ### names, len -/
def spNames (K : PySem.W.Frag) : Sp := fun vs H Q _ => ∃ s cs, vs = [.ref s] ∧ ShtOk K H s cs ∧ ∀ D H', Same H H' → H D = none → H' D = some (.lst ((cs.map (·.1)).map V.str)) → Q (.ref D) H'
theorem sc_Sheet_names : FnScope ["self"] ["self"] (defScope s_Sheet_names) := ⟨rfl, rfl, rfl, by decide +kernel, rfl, by decide +kernel, by decide +kernel⟩
theorem ok_Sheet_names (T : Tx K mg base) : Ok P w K mg base 2 (d_Sheet_names.loc K) ["self"] (spNames K) := by
  refine mk_ok (k := 1) T.f_Sheet_names sc_Sheet_names (fun _ _ _ _ _ _ us hl => match us, hl with | [_], _ => rfl) (fun vs H Q E h => ?_) (fun cdv A outer s H vs Q E hr h => ?_)
  · obtain ⟨s, cs, rfl, _⟩ := h
    rfl
  · obtain ⟨s, cs, rfl, hs, k⟩ := h
    refine ⟨_, (pss_one (ps_ret (pe_callTy (call_list_dK rfl) (by rfl) T.b_list (by decide +kernel) (pa_cons (pe_fld (pv 0) rfl) pa_nil)))), ?_⟩
    obtain ⟨dx, fs, dc, kvs, dr, kr, h1, h2, h3, hno, h4, h5, h6, h7⟩ := hs.at3
    refine ⟨_, rfl, s, _, dx, _, _, rfl, h1, T.cls_Sheet, T.no_Sheet_own_cues, h2, dc, kvs, rfl, h4, fun D gD => ?_⟩
    exact k D _ (AT.Same.up gD) gD (by rw [upd_same, keys_of h5])
def spLenS (K : PySem.W.Frag) : Sp := fun vs H Q _ => ∃ s cs, vs = [.ref s] ∧ ShtOk K H s cs ∧ Q (.int (cs.length : Nat)) H
theorem sc_Sheet_len_ : FnScope ["self"] ["self"] (defScope s_Sheet_len_) := ⟨rfl, rfl, rfl, by decide +kernel, rfl, by decide +kernel, by decide +kernel⟩
theorem ok_Sheet_len_ (T : Tx K mg base) : Ok P w K mg base 2 (d_Sheet_len_.loc K) ["self"] (spLenS K) := by
  refine mk_ok (k := 1) T.f_Sheet_len_ sc_Sheet_len_ (fun _ _ _ _ _ _ us hl => match us, hl with | [_], _ => rfl) (fun vs H Q E h => ?_) (fun cdv A outer s H vs Q E hr h => ?_)
  · obtain ⟨s, cs, rfl, _⟩ := h
    rfl
  · obtain ⟨s, cs, rfl, hs, k⟩ := h
    refine ⟨_, (pss_one (ps_ret (pe_callB call_lenD (by rfl) T.b_len (by decide +kernel) (pa_cons (pe_fld (pv 0) rfl) pa_nil)))), ?_⟩
    obtain ⟨dx, fs, dc, kvs, dr, kr, h1, h2, h3, hno, h4, h5, h6, h7⟩ := hs.at3
    refine ⟨_, rfl, s, _, dx, _, _, rfl, h1, T.cls_Sheet, T.no_Sheet_own_cues, h2, dc, kvs, rfl, h4, ?_⟩
    rw [h5.length]
    exact k
/-! ### cue -/
def spCue (K : PySem.W.Frag) : Sp := fun vs H Q E => ∃ s cs v, vs = [.ref s, v] ∧ ShtOk K H s cs ∧ AnyV K H v ∧
  (((inSh cs v = false ∨ v = .str "start") ∧ Rf K "UnknownCue" "label" v H E) ∨ ∃ c ∈ cs, v = .str c.1 ∧ ∀ t p, H t = some (.tup [.str c.2.1, .str (uS c.2.2.1), .ref p]) → IsQ K H p c.2.2.2 → Q (.ref t) H)
theorem sc_Sheet_cue : FnScope ["self", "name"] ["self", "name"] (defScope s_Sheet_cue) := ⟨rfl, rfl, rfl, by decide +kernel, rfl, by decide +kernel, by decide +kernel⟩
theorem ok_Sheet_cue (T : Tx K mg base) : Ok P w K mg base 3 (d_Sheet_cue.loc K) ["self", "name"] (spCue K) := by
  refine mk_ok (k := 2) T.f_Sheet_cue sc_Sheet_cue (fun _ _ _ _ _ _ us hl => match us, hl with | [_, _], _ => rfl) (fun vs H Q E h => ?_) (fun cdv A outer s H vs Q E hr h => ?_)
  · obtain ⟨s, cs, v, rfl, _⟩ := h
    rfl
  · obtain ⟨s, cs, v, rfl, hs, hv, hc⟩ := h
    refine ⟨_, (pss_cons (ps_if (PW.pt (pw_or (pt_cmpR (op_notInO T.m_Sheet_contains_ (ok_Sheet_contains_ T) (hr.mono (by decide)) passL) (pv 1) (pv 0) (by rfl)) (pw_or1 (pt_cmpR op_eq (pv 1) (pe_k T.c_START) (nomark _))))) (pss_one (ps_rsG rfl (mx_UnknownCue T (hr.mono (by decide))) (takes_of rfl rfl rfl rfl) rfl (pv 1))) pss_nil)
      (pss_one (ps_ret (pe_dget (by exact hu_of hr) (pe_fld (pv 0) rfl) (pv 1) (fun _ _ => rfl))))), ?_⟩
    obtain ⟨dx, fs, dc, kvs, dr, kr, h1, h2, h3, hno, h4, h5, h6, h7⟩ := hs.at3
    refine ⟨_, rfl, _, rfl, s, dx, _, rfl, h1, s, dx, _, dr, kr, _, v, rfl, h1, h3, .inl h6, h7, hv, _, rfl, _, rfl, ?_⟩
    have hok := hs.2.1
    rcases hc with ⟨hc, k⟩ | ⟨c, hc, rfl, k⟩
    · cases e : inRw (PR.rowsF ("start" : Str) cs) v with
      | false => exact iteT (iteT ⟨_, rfl, mk_atG T.xg_UnknownCue.oex T.xg_UnknownCue.no (rf_of k)⟩)
      | true =>
        rcases hc with z | rfl
        · rw [show inSh cs v = inRw (PR.rowsF ("start" : Str) cs) v from rfl, e] at z
          cases z
        · refine iteF ⟨_, rfl, rfl, _, rfl, ?_⟩
          rw [decide_eq_true rfl]
          exact iteT ⟨_, rfl, mk_atG T.xg_UnknownCue.oex T.xg_UnknownCue.no (rf_of k)⟩
    · have e : inRw (PR.rowsF ("start" : Str) cs) (.str c.1) = true := by
        rw [show inRw (PR.rowsF ("start" : Str) cs) (.str c.1) = inSh cs (.str c.1) from rfl, inSh_str]
        exact decide_eq_true (PR.Good.mem hc)
      rw [e]
      refine iteF ⟨_, rfl, rfl, _, rfl, ?_⟩
      have ns : c.1 ≠ "start" := fun z => (List.nodup_cons.mp hok.good.nodup).1 (by rw [← z]; exact List.mem_map_of_mem hc)
      rw [decide_eq_false (fun z => ns (V.str.inj z))]
      obtain ⟨v, e1, t, p, rfl, e2, e3⟩ := cue_val h5 hok.nd hc
      refine iteF ⟨_, rfl, s, _, dx, _, _, rfl, h1, T.cls_Sheet, T.no_Sheet_own_cues, h2, _, rfl, dc, _, rfl, .inl ⟨kvs, Sum.inr c.1, .inl h4, rfl, e1.symm⟩, k t p e2 e3⟩
/-! ### the dict of cues locked -/
theorem lock_cues {H : Hp} {s dc : Addr} {dx : Addr} {fs : List (Str × V)} {kvs : List (Key × V)} {cs : List Cue} (h1 : H s = some (.ins (cS K) dx fs)) (h4 : H dc = some (.dK kvs)) (h5 : Paired (KvC K H) kvs cs) (od : Obj) :
    upd H dc (.frz od (.dK kvs)) s = some (.ins (cS K) dx fs) ∧ upd H dc (.frz od (.dK kvs)) dc = some (.frz od (.dK kvs)) ∧ Paired (KvC K (upd H dc (.frz od (.dK kvs)))) kvs cs ∧
    (∀ {H' : Hp}, Same (upd H dc (.frz od (.dK kvs))) H' → Same H (upd H' dc (.dK kvs))) ∧ ∀ {b : Addr}, upd H dc (.frz od (.dK kvs)) b = none → H b = none ∧ b ≠ dc := by
  have nsd : s ≠ dc := by rintro rfl; rw [h4] at h1; cases h1
  have tq : TQ K H (upd H dc (.frz od (.dK kvs))) := TQ.up h4 (fun _ z => nomatch z) (fun _ _ z => nomatch z)
  refine ⟨by rw [upd_ne nsd]; exact h1, upd_same, Paired.mapP h5 fun _ _ z => z.tq tq, fun {H'} s1 b o e => ?_, fun {b} e => ?_⟩
  · by_cases hb : b = dc
    · subst hb
      rw [h4] at e
      cases e
      exact upd_same
    · rw [upd_ne hb]
      exact s1 _ _ (by rw [upd_ne hb]; exact e)
  · have nb : b ≠ dc := by rintro rfl; rw [upd_same] at e; cases e
    rw [upd_ne nb] at e
    exact ⟨e, nb⟩
def spCuesM (K : PySem.W.Frag) : Sp := fun vs H Q _ => ∃ s cs, vs = [.ref s] ∧ ShtOk K H s cs ∧ ∀ D xs H', Same H H' → H D = none → H' D = some (.lst xs) → Paired (CuT K H') xs cs → Q (.ref D) H'
theorem sc_Sheet_cues : FnScope ["self", "name"] ["self"] (defScope s_Sheet_cues) := ⟨rfl, rfl, rfl, by decide +kernel, rfl, by decide +kernel, by decide +kernel⟩
theorem ok_Sheet_cues (T : Tx K mg base) : Ok P w K mg base 3 (d_Sheet_cues.loc K) ["self"] (spCuesM K) := by
  refine mk_ok (k := 2) T.f_Sheet_cues sc_Sheet_cues (fun _ _ _ _ _ _ us hl => match us, hl with | [_], _ => rfl) (fun vs H Q E h => ?_) (fun cdv A outer s H vs Q E hr h => ?_)
  · obtain ⟨s, cs, rfl, _⟩ := h
    rfl
  · obtain ⟨s, cs, rfl, hs, k⟩ := h
    refine ⟨_, (pss_one (ps_ret (pe_lock (pe_lc (own := [("name", 1)]) (g := (gName 1)) (tt := tYes) (by rfl) sc_Sheet_cues.nd (pi_keys (pe_fld (pv 0) rfl)) (blkOk_by (own := [("name", 1)]) (N := ["self", "name"]) (sc := defScope s_Sheet_cues) (by decide +kernel)) (fun _ _ _ _ _ => (pg_name (i := 1) sc_Sheet_cues.nd rfl (Or.inl rfl))) (fun _ _ _ _ _ => pts_nil) (fun _ _ _ _ _ => (pe_tup (pa_cons (pv 1) (show PA _ _ (StX.tStar K _ _) from StX.pa_star (pe_dget (by exact hu_of hr) (pe_fldK (K := K) rfl (pv 0) rfl) (pv 1) (fun _ _ => rfl)) pa_nil)))))))), ?_⟩
    obtain ⟨dx, fs, dc, kvs, dr, kr, h1, h2, h3, hno, h4, h5, h6, h7⟩ := hs.at3
    have hsz : sizeLine = 16777216 := sizeLine_eq
    have hcl := hs.2.1.len
    have hnd := hs.2.1.nd
    have hkl := h5.length
    refine ⟨dc, _, h4, True.intro, fun od => ?_⟩
    obtain ⟨g1, g4, g5, back, fr⟩ := lock_cues h1 h4 h5 od
    have kback : ∀ {H' : Hp} {D : Addr} {xs : List V}, H' dc = some (.frz od (.dK kvs)) → Paired (CuT K H') xs cs → Paired (CuT K (upd H' dc (.dK kvs))) xs cs := fun hd hx => Paired.mapP hx fun _ _ z => z.tq (TQ.up hd (fun _ z => nomatch z) (fun _ _ z => nomatch z))
    generalize upd H dc (.frz od (.dK kvs)) = H1 at g1 g4 g5 back fr ⊢
    refine ⟨_, rfl, s, _, dx, _, _, rfl, g1, T.cls_Sheet, T.no_Sheet_own_cues, h2, dc, od, rfl, .inl ⟨kvs, g4, fun D gD => ?_⟩⟩
    refine lc_it (walk_keys (kvs := kvs)) (fun j H' => Same H1 H' ∧ ∃ xs, H' D = some (.lst xs) ∧ Paired (CuT K H') xs (cs.take j)) ⟨AT.Same.up gD, [], upd_same, .nil⟩ (fun j H' _ hP => hP.1 _ _ g4) (fun j x H' H2 hj hP hY => ?_) (fun H' hP => ?_)
    · obtain ⟨sm, xs, hD, hx⟩ := hP
      obtain ⟨rfl, kk, vv, hkv, rfl⟩ := hY
      obtain ⟨c, hc, hk, t, p, hvv, ht, hp⟩ := prd_getL g5 hkv
      dsimp only at hk hvv
      subst hk hvv
      have hcm := List.mem_of_getElem? hc
      obtain ⟨v2, e1, t2, p2, rfl, e2, e3⟩ := cue_val g5 hnd hcm
      have hxl := hx.length
      rw [List.length_take] at hxl
      refine ⟨rfl, ?_⟩
      dsimp only [tYes]
      refine iteT ⟨_, rfl, _, rfl, s, _, dx, _, _, rfl, sm _ _ g1, T.cls_Sheet, T.no_Sheet_own_cues, h2, _, rfl, dc, _, rfl, .inl ⟨kvs, Sum.inr c.1, .inr ⟨_, sm _ _ g4⟩, rfl, e1.symm⟩, t2, _, rfl, .inl (SqT.of (sm _ _ e2)), (by show 4 ≤ sizeLine; decide), fun tn gn => ?_⟩
      have sT := AT.Same.up (o := .tup [.str c.1, .str c.2.1, .str (uS c.2.2.1), .ref p2]) gn
      have hD2 := sT _ _ hD
      have tu : TQ K (upd H2 tn (.tup [.str c.1, .str c.2.1, .str (uS c.2.2.1), .ref p2])) (upd (upd H2 tn (.tup [.str c.1, .str c.2.1, .str (uS c.2.2.1), .ref p2])) D (.lst (xs ++ [.ref tn]))) := TQ.up hD2 (fun _ z => nomatch z) (fun _ _ z => nomatch z)
      refine ⟨xs, hD2, (by omega), AT.Same.new (sm.trans sT) gD, _, upd_same, ?_⟩
      rw [List.take_add_one, hc]
      exact prd_app (Paired.mapP hx fun _ _ z => z.tq ((TQ.of sT).trans tu)) (.cons ⟨tn, p2, rfl, tu.1 _ _ upd_same, (e3.up (sm.trans sT)).tq tu⟩ .nil)
    · obtain ⟨sm, xs, hD, hx⟩ := hP
      rw [hkl, List.take_length] at hx
      exact ⟨sm _ _ g4, k D xs _ (back sm) (fr gD).1 (by rw [upd_ne (fr gD).2]; exact hD) (kback (D := D) (sm _ _ g4) hx)⟩
end
end K34

set_option maxHeartbeats 4000000
namespace K34
open PySem PySem.Spec PyProof.Rows L2 AT
/-! ### the law's draws -/
def BoxAt (H : Hp) (p : Addr) (n : Nat) : Prop := ∃ a b c : Int, H p = some (.lst [.int a, .int b, .int c]) ∧ 0 ≤ a ∧ 0 ≤ b ∧ b < 2147483629 ∧ 0 ≤ c ∧ c ≤ n
/-- all but the object at p is as it was -/
def SameX (p : Addr) (H H' : Hp) : Prop := ∀ b o, b ≠ p → H b = some o → H' b = some o
theorem SameX.refl (p : Addr) (H : Hp) : SameX p H H := fun _ _ _ e => e
theorem SameX.trans {p : Addr} {H H1 H2 : Hp} (a : SameX p H H1) (b : SameX p H1 H2) : SameX p H H2 := fun x o n e => b x o n (a x o n e)
theorem sameX_of {p : Addr} {H H' : Hp} (s : Same H H') : SameX p H H' := fun b o _ e => s b o e
theorem BoxAt.up {H H' : Hp} {p : Addr} {n : Nat} (h : BoxAt H p n) (s : Same H H') : BoxAt H' p n := by
  obtain ⟨a, b, c, e, r⟩ := h
  exact ⟨a, b, c, s _ _ e, r⟩
theorem BoxAt.mono {H : Hp} {p : Addr} {n m : Nat} (h : BoxAt H p n) (l : n ≤ m) : BoxAt H p m := by
  obtain ⟨a, b, c, e, h1, h2, h3, h4, h5⟩ := h
  exact ⟨a, b, c, e, h1, h2, h3, h4, by omega⟩
section
variable {P : Program} {w : World} {K : PySem.W.Frag} {mg : Str → Option Value} {base : Heap}
def spCell (K : PySem.W.Frag) : Sp := fun vs H Q _ => ∃ (a : Addr) (ns : List Int) (k : Nat), vs = [.ref a, .int k] ∧ SqL K H a (ns.map V.int) ∧ k < 100 ∧ ∀ c : Int, Q (.int c) H
theorem sc_w_cell : FnScope ["_law_script", "_law_k"] ["_law_script", "_law_k"] (defScope s_w_cell) := ⟨rfl, rfl, rfl, by decide +kernel, rfl, by decide +kernel, by decide +kernel⟩
theorem ok_w_cell (T : Tx K mg base) : Ok P w K mg base 1 (d_w_cell.loc K) ["_law_script", "_law_k"] (spCell K) := by
  refine mk_ok (k := 0) T.f_w_cell sc_w_cell (fun _ _ _ _ _ _ us hl => match us, hl with | [_, _], _ => rfl) (fun vs H Q E h => ?_) (fun cdv A outer s H vs Q E hr h => ?_)
  · obtain ⟨a, ns, k, rfl, _⟩ := h
    rfl
  · obtain ⟨a, ns, k, rfl, hS, hk, q⟩ := h
    refine ⟨_, (pss_cons (ps_if (pt_cmpR op_lt (pv 1) (pe_callB call_len_seq (by rfl) T.b_len (by decide +kernel) (pa_cons (pv 0) pa_nil)) (nomark _)) (pss_one (ps_ret (pe_ix ix_list (pv 0) (pv 1) (fun _ _ => rfl)))) pss_nil)
      (pss_one (ps_ret (pe_op op_add (pe_op op_mulW pe_int (pv 1)) pe_int)))), ?_⟩
    refine ⟨_, rfl, _, rfl, a, _, rfl, .inl hS, _, _, rfl, rfl, _, rfl, ?_⟩
    refine ite2 (fun h1 => ?_) (fun h1 => ?_)
    · have h1' : (k : Int) < ((ns.map V.int).length : Int) := of_decide_eq_true h1
      rw [List.length_map] at h1'
      have hx : (ns.map V.int)[k]? = some (.int (ns.getD k 0)) := by
        rw [List.getElem?_map, List.getElem?_eq_getElem (by omega), List.getD_eq_getElem?_getD, List.getElem?_eq_getElem (by omega)]
        rfl
      exact ⟨_, rfl, _, rfl, a, _, _, _, rfl, rfl, hS, atI_nat hx, q _⟩
    · exact ⟨_, rfl, _, _, rfl, rfl, wide_mul (a := 64) (b := 64) (by decide) (by rw [Int.natAbs_natCast]; exact Nat.lt_trans hk (by decide)) (by decide) (by decide) (by decide), _, _, rfl, rfl, q _⟩
def spBox : Sp := fun vs H Q _ => ∃ c : Int, vs = [.int c] ∧ ∀ p H', Same H H' → H p = none → BoxAt H' p 0 → Q (.ref p) H'
theorem sc_w_box : FnScope ["_law_cell_here"] ["_law_cell_here"] (defScope s_w_box) := ⟨rfl, rfl, rfl, by decide +kernel, rfl, by decide +kernel, by decide +kernel⟩
theorem ok_w_box (T : Tx K mg base) : Ok P w K mg base 1 (d_w_box.loc K) ["_law_cell_here"] spBox := by
  refine mk_ok (k := 0) T.f_w_box sc_w_box (fun _ _ _ _ _ _ us hl => match us, hl with | [_], _ => rfl) (fun vs H Q E h => ?_) (fun cdv A outer s H vs Q E hr h => ?_)
  · obtain ⟨c, rfl, _⟩ := h
    rfl
  · obtain ⟨c, rfl, k⟩ := h
    refine ⟨_, (pss_one (ps_ret (pe_lst (pa_cons (pe_callB (call_max2 rfl) (by rfl) T.b_max (by decide +kernel) (pa_cons pe_int (pa_cons (pe_op op_sub (pv 0) (pe_op op_pow pe_int pe_int)) pa_nil))) (pa_cons (pe_op op_mod (pv 0) pe_int) (pa_cons pe_int pa_nil)))))), ?_⟩
    refine ⟨_, rfl, _, _, rfl, rfl, ⟨by decide, by decide, by decide⟩, _, _, rfl, rfl, _, _, rfl, _, rfl, _, _, rfl, rfl, (show (0 : Int) < 2147483629 by decide), (by show 3 ≤ sizeLine; decide), fun p hp => ?_⟩
    exact k p _ (AT.Same.up hp) hp ⟨_, _, _, upd_same, by split <;> omega, Int.emod_nonneg _ (by decide), Int.emod_lt_of_pos _ (by decide), by decide, by decide⟩
def spTake : Sp := fun vs H Q _ => ∃ (p : Addr) (many : Int) (n : Nat), vs = [.ref p, .int many] ∧ BoxAt H p n ∧ n ≤ 100000 ∧ 0 < many ∧ many.natAbs < 2 ^ 1000 ∧ ∀ (r : Int) H', 0 ≤ r → r < many → SameX p H H' → BoxAt H' p (n + 1) → Q (.int r) H'
theorem sc_w_take : FnScope ["_law_box_here", "_law_many", "_law_digit", "_law_mixed_here"] ["_law_box_here", "_law_many"] (defScope s_w_take) := ⟨rfl, rfl, rfl, by decide +kernel, rfl, by decide +kernel, by decide +kernel⟩
theorem ok_w_take (T : Tx K mg base) : Ok P w K mg base 1 (d_w_take.loc K) ["_law_box_here", "_law_many"] spTake := by
  refine mk_ok (k := 0) T.f_w_take sc_w_take (fun _ _ _ _ _ _ us hl => match us, hl with | [_, _], _ => rfl) (fun vs H Q E h => ?_) (fun cdv A outer s H vs Q E hr h => ?_)
  · obtain ⟨p, many, n, rfl, _⟩ := h
    rfl
  · obtain ⟨p, many, n, rfl, ⟨a, b, c, hp, ha, hb, hb2, hc, hcn⟩, hn, hm, hmb, k⟩ := h
    refine ⟨_, (pss_cons (ps_if (pt_cmpR op_gt (pe_ix ix_list (pv 0) pe_int (fun _ _ => rfl)) pe_int (nomark _)) (pss_cons (ps_set (i := 2) sc_w_take.nd rfl (Or.inl rfl) (pe_op op_mod (pe_ix ix_list (pv 0) pe_int (fun _ _ => rfl)) (pv 1)))
      (pss_cons (ps_asg (pe_op op_fdivW (pe_ix ix_list (pv 0) pe_int (fun _ _ => rfl)) (pv 1)) (pg_sub (pv 0) pe_int set_list))
      (pss_one (ps_ret (pv 2))))) pss_nil)
      (pss_cons (ps_asg (pe_op op_add (pe_ix ix_list (pv 0) pe_int (fun _ _ => rfl)) pe_int) (pg_sub (pv 0) pe_int set_list))
      (pss_cons (ps_set (i := 3) sc_w_take.nd rfl (Or.inl rfl) (pe_op op_mod (pe_op op_pow (pe_op op_add (pe_op op_add (pe_ix ix_list (pv 0) pe_int (fun _ _ => rfl)) (pe_op op_mulW pe_int (pe_ix ix_list (pv 0) pe_int (fun _ _ => rfl)))) pe_int) pe_int) pe_int))
      (pss_cons (ps_set (i := 3) sc_w_take.nd rfl (Or.inl rfl) (pe_op op_mod (pe_op op_pow (pe_op op_add (pv 3) (pe_op op_mulW pe_int (pe_ix ix_list (pv 0) pe_int (fun _ _ => rfl)))) pe_int) pe_int))
      (pss_one (ps_ret (pe_op op_mod (pe_op op_fdivW (pv 3) pe_int) (pv 1)))))))), ?_⟩
    have sx : ∀ o, SameX p H (upd H p o) := fun o x u hx e => by rw [upd_ne hx]; exact e
    refine ⟨_, rfl, p, _, 0, _, rfl, rfl, SqL.of hp, rfl, _, _, rfl, rfl, _, rfl, ?_⟩
    refine ite2 (fun h1 => ?_) (fun h1 => ?_)
    · have h1' : 0 < a := of_decide_eq_true h1
      refine ⟨_, rfl, p, _, 0, _, rfl, rfl, SqL.of hp, rfl, _, rfl, _, _, rfl, rfl, hm, ?_⟩
      refine ⟨_, rfl, p, _, 0, _, rfl, rfl, SqL.of hp, rfl, _, rfl, _, _, rfl, rfl, wide_div hm hmb (by decide) (by decide), _, rfl, p, _, 0, 0, rfl, rfl, hp, rfl, ?_⟩
      refine ⟨_, rfl, k _ _ (Int.emod_nonneg _ (by omega)) (Int.emod_lt_of_pos _ hm) (sx _) ⟨a / many, b, c, upd_same, Int.ediv_nonneg ha (by omega), hb, hb2, hc, by omega⟩⟩
    · refine ⟨_, rfl, p, _, 2, _, rfl, rfl, SqL.of hp, rfl, _, _, rfl, rfl, _, rfl, p, _, 2, 2, rfl, rfl, hp, rfl, ?_⟩
      have hp2 : upd H p (.lst [.int a, .int b, .int (c + 1)]) p = some (.lst [.int a, .int b, .int (c + 1)]) := upd_same
      refine ⟨_, rfl, p, _, 1, _, rfl, rfl, SqL.of hp2, rfl, _, rfl, p, _, 2, _, rfl, rfl, SqL.of hp2, rfl, _, _, rfl, rfl, wide_mul (a := 64) (b := 64) (by decide) (by omega) (by decide) (by decide) (by decide), _, _, rfl, rfl, _, _, rfl, rfl, _, _, rfl, rfl, ⟨by decide, by decide, by omega⟩, _, _, rfl, rfl, (show (0 : Int) < 2147483647 by decide), ?_⟩
      generalize hx : ((b + 15489409 * (c + 1) + 1663) ^ (5 : Int).toNat) % 2147483647 = x
      have hx1 : 0 ≤ x := hx ▸ Int.emod_nonneg _ (by decide)
      have hx2 : x < 2147483647 := hx ▸ Int.emod_lt_of_pos _ (by decide)
      refine ⟨_, rfl, _, rfl, p, _, 2, _, rfl, rfl, SqL.of hp2, rfl, _, _, rfl, rfl, wide_mul (a := 64) (b := 64) (by decide) (by omega) (by decide) (by decide) (by decide), _, _, rfl, rfl, _, _, rfl, rfl, ⟨by decide, by decide, by omega⟩, _, _, rfl, rfl, (show (0 : Int) < 2147483587 by decide), ?_⟩
      generalize ((x + 104711 * (c + 1)) ^ (3 : Int).toNat) % 2147483587 = y
      refine ⟨_, rfl, _, _, rfl, rfl, wide_div (b := 10) (by decide) (by decide) (by decide) (by decide), _, rfl, _, _, rfl, rfl, hm, ?_⟩
      exact k _ _ (Int.emod_nonneg _ (by omega)) (Int.emod_lt_of_pos _ hm) (sx _) ⟨a, b, c + 1, upd_same, ha, hb, hb2, by omega, by omega⟩
end
end K34

set_option maxHeartbeats 4000000
namespace K34
open PySem PySem.Spec PyProof.Rows L2 AT
/-! ### the law's own fractions: pairs in lowest terms -/
def pairQ (q : Rat) : HO := .tup [.int q.num, .int q.den]
theorem sg_num {t b : Int} (s : Int) (hs : s = if b < 0 then -1 else 1) (h : b ≠ 0) : (s * t).fdiv (Int.gcd t b : Nat) = (Rat.divInt t b).num := by
  rw [Rat.num_divInt, Int.gcd_comm b t, Int.fdiv_eq_ediv_of_nonneg _ (by omega)]
  have e : b.sign = s := by
    rw [hs]
    split
    · rename_i z; exact Int.sign_eq_neg_one_of_neg z
    · exact Int.sign_eq_one_of_pos (by omega)
  rw [e]
theorem sg_den {t b : Int} (s : Int) (hs : s = if b < 0 then -1 else 1) (h : b ≠ 0) : (s * b).fdiv (Int.gcd t b : Nat) = ((Rat.divInt t b).den : Int) := by
  rw [Rat.den_divInt, if_neg h, Int.gcd_comm b t, Int.fdiv_eq_ediv_of_nonneg _ (by omega)]
  have e : s * b = (b.natAbs : Int) := by
    rw [hs]
    split <;> omega
  rw [e]
  simp
section
variable {P : Program} {w : World} {K : PySem.W.Frag} {mg : Str → Option Value} {base : Heap}
def spFrac : Sp := fun vs H Q _ => ∃ t b : Int, vs = [.int t, .int b] ∧ b ≠ 0 ∧ t.natAbs < 2 ^ 8000 ∧ b.natAbs < 2 ^ 8000 ∧ ∀ q H', Same H H' → H q = none → H' q = some (pairQ (Rat.divInt t b)) → Q (.ref q) H'
theorem sc_w_lowest : FnScope ["_law_top", "_law_bottom", "_law_one", "_law_other"] ["_law_top", "_law_bottom"] (defScope s_w_lowest) := ⟨rfl, rfl, rfl, by decide +kernel, rfl, by decide +kernel, by decide +kernel⟩
theorem ok_w_lowest (T : Tx K mg base) : Ok P w K mg base 1 (d_w_lowest.loc K) ["_law_top", "_law_bottom"] spFrac := by
  refine mk_ok (k := 0) T.f_w_lowest sc_w_lowest (fun _ _ _ _ _ _ us hl => match us, hl with | [_, _], _ => rfl) (fun vs H Q E h => ?_) (fun cdv A outer s H vs Q E hr h => ?_)
  · obtain ⟨t, b, rfl, _⟩ := h
    rfl
  · obtain ⟨t, b, rfl, hb0, htd, hbd, k⟩ := h
    refine ⟨_, (pss_cons (ps_par (by rfl) sc_w_lowest.nd (i := 2) (j := 3) rfl rfl (by decide) rfl rfl (pa_cons (pe_callB call_abs (by rfl) T.b_abs (by decide +kernel) (pa_cons (pv 0) pa_nil)) (pa_cons (pe_callB call_abs (by rfl) T.b_abs (by decide +kernel) (pa_cons (pv 1) pa_nil)) pa_nil)) (by rfl))
      (pss_cons (ps_while (passes_of rfl) (pt_cmpR op_gt (pv 3) pe_int (nomark _)) (pss_one (ps_par (by rfl) sc_w_lowest.nd (i := 2) (j := 3) rfl rfl (by decide) rfl rfl (pa_cons (pv 3) (pa_cons (pe_op op_mod (pv 2) (pv 3)) pa_nil)) (by rfl))))
      (pss_cons (ps_set (i := 2) sc_w_lowest.nd rfl (Or.inl rfl) (pe_ifExp (pt_cmpR op_gt (pv 1) pe_int (nomark _)) (pv 2) (pe_op op_sub pe_int (pv 2))))
      (pss_one (ps_ret (pe_tup (pa_cons (pe_op op_fdivZ (pv 0) (pv 2)) (pa_cons (pe_op op_fdivZ (pv 1) (pv 2)) pa_nil)))))))), ?_⟩
    refine ⟨_, rfl, t, rfl, _, rfl, b, rfl, _, _, rfl, ?_⟩
    refine ⟨fun m σ H' => ∃ a' b' : Int, σ = ([some (.int t), some (.int b), some (.int a'), some (.int b')] : L2.St) ∧ H' = H ∧ 0 ≤ a' ∧ 0 ≤ b' ∧ Int.gcd a' b' = Int.gcd t b ∧ m = b'.toNat, ⟨_, _, _, rfl, rfl, (by split <;> omega), (by split <;> omega), abs_gcd t b, rfl⟩, ?_⟩
    rintro m σ H' ⟨a', b', rfl, rfl, ha', hb', hg, rfl⟩
    refine ⟨_, rfl, _, _, rfl, rfl, _, rfl, ?_⟩
    refine ite2 (fun h1 => ?_) (fun h1 => ?_)
    · have h1' : 0 < b' := of_decide_eq_true h1
      refine ⟨fun σ2 H2 => ∃ a2 b2 : Int, σ2 = ([some (.int t), some (.int b), some (.int a2), some (.int b2)] : L2.St) ∧ H2 = H' ∧ 0 ≤ a2 ∧ 0 ≤ b2 ∧ Int.gcd a2 b2 = Int.gcd t b ∧ b2 < b', ?_, ?_⟩
      · rintro σ2 H2 ⟨a2, b2, rfl, rfl, h2, h3, h4, h5⟩
        exact ⟨b2.toNat, by omega, a2, b2, rfl, rfl, h2, h3, h4, rfl⟩
      · refine ⟨_, rfl, _, rfl, _, rfl, _, _, rfl, rfl, h1', _, _, rfl, ?_⟩
        exact ⟨b', a' % b', rfl, rfl, hb', Int.emod_nonneg _ (by omega), by rw [gcd_turn ha' h1', hg], Int.emod_lt_of_pos _ h1'⟩
    · have h0 : b' = 0 := by
        have := of_decide_eq_false (by simpa using h1 : decide (0 < b') = false)
        omega
      subst h0
      have e : a' = (Int.gcd t b : Nat) := by rw [← hg, Int.gcd_zero_right]; omega
      subst e
      have hgp := gcd_pos (t := t) hb0
      have hle := gcd_le (t := t) hb0
      have hlog : (Int.gcd t b).log2 < 9000 := log_lt (by decide) (Nat.lt_of_le_of_lt hle (Nat.lt_trans hbd (Nat.pow_lt_pow_right (by decide) (by decide))))
      have fin : ∀ f, f = fac t b → f ≠ 0 → f.natAbs.log2 < 9000 → tRet (tTup (tCons (tOp (rI CDivZ fun i j => .int (i.fdiv j)) (tVar 0) (tVar 2)) (tCons (tOp (rI CDivZ fun i j => .int (i.fdiv j)) (tVar 1) (tVar 2)) tNil))) { nx := fun _ H' => Q .non H', rt := Q } ([some (.int t), some (.int b), some (.int f), some (.int 0)] : L2.St) H' := by
        rintro f rfl hf hl
        exact ⟨_, rfl, _, rfl, _, _, rfl, rfl, ⟨hf, hl⟩, _, rfl, _, rfl, _, _, rfl, rfl, ⟨hf, hl⟩, (by show 2 ≤ sizeLine; decide), fun p hp => k p _ (AT.Same.up hp) hp (by
          rw [upd_same]
          show some (HO.tup [.int (t.fdiv (fac t b)), .int (b.fdiv (fac t b))]) = _
          rw [low_num hb0, low_den hb0]
          rfl)⟩
      refine ⟨_, rfl, _, _, rfl, rfl, _, rfl, ?_⟩
      refine ite2 (fun h2 => ?_) (fun h2 => ?_)
      · have h2' : 0 < b := of_decide_eq_true h2
        exact ⟨_, rfl, fin _ (by unfold fac; rw [if_neg (by omega)]) (by omega) (by rw [Int.natAbs_natCast]; exact hlog)⟩
      · have h2' : ¬ 0 < b := of_decide_eq_false (by simpa using h2)
        refine ⟨_, rfl, _, _, rfl, rfl, ?_⟩
        have := fin (0 - (Int.gcd t b : Nat)) (by unfold fac; rw [if_pos (by omega)]; omega) (by omega) (by rw [show (0 - (Int.gcd t b : Int)).natAbs = Int.gcd t b by omega]; exact hlog)
        exact this
/-- a pair that stands for q -/
def PQ (H : Hp) (v : V) (q : Rat) : Prop := ∃ a, v = .ref a ∧ H a = some (pairQ q)
theorem PQ.up {H H' : Hp} {v : V} {q : Rat} (h : PQ H v q) (s : Same H H') : PQ H' v q := h.imp fun _ z => ⟨z.1, s _ _ z.2⟩
theorem mul4 {i j : Int} (h : i.natAbs < 2 ^ 3000) (g : j.natAbs < 2 ^ 3000) : CMulW i j := wide_mul h g (by decide) (by decide) (by decide)
theorem den_of {k : Nat} {q : Rat} (h : Bits k q) : ((q.den : Nat) : Int).natAbs < 2 ^ k := den_bits h
def spTwo (op : Rat → Rat → Rat) : Sp := fun vs H Q _ => ∃ v1 v2 x y, vs = [v1, v2] ∧ PQ H v1 x ∧ PQ H v2 y ∧ Bits 3000 x ∧ Bits 3000 y ∧ ∀ v H', Same H H' → PQ H' v (op x y) → Q v H'
theorem sc_w_added : FnScope ["_law_one", "_law_other"] ["_law_one", "_law_other"] (defScope s_w_added) := ⟨rfl, rfl, rfl, by decide +kernel, rfl, by decide +kernel, by decide +kernel⟩
theorem ok_w_added (T : Tx K mg base) : Ok P w K mg base 2 (d_w_added.loc K) ["_law_one", "_law_other"] (spTwo fun x y => x + y) := by
  refine mk_ok (k := 1) T.f_w_added sc_w_added (fun _ _ _ _ _ _ us hl => match us, hl with | [_, _], _ => rfl) (fun vs H Q E h => ?_) (fun cdv A outer s H vs Q E hr h => ?_)
  · obtain ⟨v1, v2, x, y, rfl, _⟩ := h
    rfl
  · obtain ⟨_, _, x, y, rfl, ⟨a, rfl, ha⟩, ⟨b, rfl, hb⟩, bx, by_, k⟩ := h
    refine ⟨_, (pss_one (ps_ret (ok_call (ok_w_lowest T) (hr.mono (by decide)) rfl T.g_w_lowest passL (pa_cons (pe_op op_add (pe_op op_mulW (pe_ix ix_tup (pv 0) pe_int (fun _ _ => rfl)) (pe_ix ix_tup (pv 1) pe_int (fun _ _ => rfl))) (pe_op op_mulW (pe_ix ix_tup (pv 1) pe_int (fun _ _ => rfl)) (pe_ix ix_tup (pv 0) pe_int (fun _ _ => rfl)))) (pa_cons (pe_op op_mulW (pe_ix ix_tup (pv 0) pe_int (fun _ _ => rfl)) (pe_ix ix_tup (pv 1) pe_int (fun _ _ => rfl))) pa_nil))))), ?_⟩
    have m1 := mul_bits bx.1 (den_bits by_)
    have m2 := mul_bits by_.1 (den_bits bx)
    have m3 := mul_bits (den_bits bx) (den_bits by_)
    refine ⟨_, rfl, a, _, 0, _, rfl, rfl, SqT.of ha, rfl, _, rfl, b, _, 1, _, rfl, rfl, SqT.of hb, rfl, _, _, rfl, rfl, mul4 bx.1 (den_bits by_), _, rfl, b, _, 0, _, rfl, rfl, SqT.of hb, rfl, _, rfl, a, _, 1, _, rfl, rfl, SqT.of ha, rfl, _, _, rfl, rfl, mul4 by_.1 (den_bits bx), _, _, rfl, rfl, ?_⟩
    refine ⟨_, rfl, a, _, 1, _, rfl, rfl, SqT.of ha, rfl, _, rfl, b, _, 1, _, rfl, rfl, SqT.of hb, rfl, _, _, rfl, rfl, mul4 (den_bits bx) (den_bits by_), _, _, rfl, Int.mul_ne_zero (den_ne x) (den_ne y), ?_, ?_, fun q H' s hq e => ?_⟩
    · have : (2 : Nat) ^ (3000 + 3000) + 2 ^ (3000 + 3000) < 2 ^ 8000 := by decide +kernel
      show (x.num * (y.den : Int) + y.num * (x.den : Int)).natAbs < _
      omega
    · exact Nat.lt_trans m3 (by decide +kernel)
    · refine k _ _ s ⟨q, rfl, ?_⟩
      rw [e]
      exact congrArg (fun z => some (pairQ z)) (q_add x y)
end
end K34

set_option maxHeartbeats 4000000
namespace K34
open PySem PySem.Spec PyProof.Rows L2 AT
/-! ### drawn names -/
def Lt (c : Nat) : Prop := 97 ≤ c ∧ c ≤ 122
def Dg (c : Nat) : Prop := 48 ≤ c ∧ c ≤ 57
theorem lt_in {c : Nat} (h : Lt c) : inS c letters = true := by
  have z : ∀ c, c < 123 → 97 ≤ c → inS c letters = true := by decide +kernel
  exact z c (by have := h.2; omega) h.1
theorem dg_in {c : Nat} (h : Dg c) : inS c digits = true := by
  have z : ∀ c, c < 58 → 48 ≤ c → inS c digits = true := by decide +kernel
  exact z c (by have := h.2; omega) h.1
def startL : List Nat := [115, 116, 97, 114, 116]
theorem start_S : ("start" : Str) = SX.S startL := by decide +kernel
theorem ld_app {m : List Nat} (hm : ldOk m = true) : ∀ {l : List Nat}, (∀ c ∈ l, Lt c) → ldOk (l ++ m) = true
  | [], _ => hm
  | c :: l, h => by
    have hc := (h c (by simp)).1
    have ih := ld_app hm (l := l) fun x hx => h x (List.mem_cons_of_mem _ hx)
    rw [List.cons_append]
    cases e : l ++ m with
    | nil => rfl
    | cons d r =>
      rw [e] at ih
      have : ldOk (c :: d :: r) = (!(decide (c ≤ 57) && decide (97 ≤ d)) && ldOk (d :: r)) := by rw [ldOk]
      rw [this, ih, decide_eq_false (by omega)]
      rfl
theorem ld_let {l : List Nat} (h : ∀ c ∈ l, Lt c) : ldOk l = true := by
  have z := ld_app (m := []) rfl h
  rw [List.append_nil] at z
  exact z
theorem ld_dig : ∀ {l : List Nat}, (∀ c ∈ l, Dg c) → ldOk l = true
  | [], _ => rfl
  | [c], _ => rfl
  | c :: d :: r, h => by
    have hd := (h d (by simp)).2
    have ih := ld_dig (l := d :: r) fun x hx => h x (List.mem_cons_of_mem _ hx)
    rw [ldOk, ih, decide_eq_false (p := 97 ≤ d) (by omega), Bool.and_false]
    rfl
structure NameL (l : List Nat) : Prop where
  len : l.length ≤ 8
  fst : ∃ c r, l = c :: r ∧ Lt c
  all : ∀ c ∈ l, Lt c ∨ Dg c
  no : l ≠ startL
  ld : ldOk l = true
theorem NameL.ok {l : List Nat} (h : NameL l) : isNameS (SX.S l) = true := by
  obtain ⟨c, r, rfl, hc⟩ := h.fst
  unfold isNameS
  have e1 : (SX.S (c :: r)).length = (c :: r).length := SX.S_len _
  have h8 := h.len
  simp only [Bool.and_eq_true, decide_eq_true_eq]
  refine ⟨by rw [e1, List.length_cons]; omega, by rw [e1]; omega, ?_, ?_⟩
  · show inS c letters = true
    exact lt_in hc
  · rw [List.all_eq_true]
    intro x hx
    rcases h.all x hx with z | z
    · rw [lt_in z]; rfl
    · rw [dg_in z, Bool.or_true]
theorem NameL.ne {l : List Nat} (h : NameL l) : SX.S l ≠ "start" := fun z => h.no (SX.S_inj (z.trans start_S))
structure LabOk (ns : List Str) (m : Nat) : Prop where
  len : ns.length = m
  nodup : ns.Nodup
  name : ∀ z ∈ ns, isNameS z = true ∧ z ≠ "start"
  ld : ∀ z ∈ ns, ldOk z.cps.toList = true
theorem lab_of {f : Nat → List Nat} {m : Nat} (inj : ∀ i j, i < m → j < m → f i = f j → i = j) (ok : ∀ i, i < m → NameL (f i)) : LabOk ((List.range m).map fun i => SX.S (f i)) m := by
  refine ⟨by simp, ?_, fun z hz => ?_, fun z hz => ?_⟩
  · rw [List.Nodup, List.pairwise_map, List.pairwise_iff_getElem]
    intro i j hi hj hij e
    rw [List.getElem_range, List.getElem_range] at e
    rw [List.length_range] at hi hj
    have := inj i j hi hj (SX.S_inj e)
    omega
  · obtain ⟨i, hi, rfl⟩ := List.mem_map.mp hz
    have h := ok i (List.mem_range.mp hi)
    exact ⟨h.ok, h.ne⟩
  · obtain ⟨i, hi, rfl⟩ := List.mem_map.mp hz
    exact (ok i (List.mem_range.mp hi)).ld
def dk (k : Nat) : List Nat := if k < 10 then [48 + k] else [49, 38 + k]
theorem dk_dg {k : Nat} (h : k < 20) : ∀ c ∈ dk k, Dg c := by
  unfold dk
  intro c hc
  split at hc
  · rw [List.mem_singleton] at hc
    exact ⟨by omega, by omega⟩
  · simp only [List.mem_cons, List.not_mem_nil, or_false] at hc
    rcases hc with rfl | rfl
    · exact ⟨by omega, by omega⟩
    · exact ⟨by omega, by omega⟩
theorem dk_inj {i j : Nat} (hi : i < 20) (hj : j < 20) (e : dk i = dk j) : i = j := by
  unfold dk at e
  split at e <;> split at e <;> simp only [List.cons.injEq, and_true, reduceCtorEq, and_false, List.nil_eq, true_and] at e <;> omega
theorem dk_len {k : Nat} : 0 < (dk k).length ∧ (dk k).length ≤ 2 := by unfold dk; split <;> simp
theorem dk_str {k : Nat} (h : k < 20) : (Str.ofString (toString (k : Int))) = SX.S (dk k) := by
  have z : ∀ k : Nat, k < 20 → (Str.ofString (toString (k : Int))) = SX.S (dk k) := by decide +kernel
  exact z k h
/-- letters with a number behind them -/
theorem name_num {l : List Nat} {k : Nat} (hk : k < 20) (hl : l ≠ []) (h6 : l.length ≤ 6) (h : ∀ c ∈ l, Lt c) : NameL (l ++ dk k) := by
  have dl := dk_len (k := k)
  refine ⟨by rw [List.length_append]; omega, ?_, ?_, ?_, ld_app (ld_dig (dk_dg hk)) h⟩
  · cases l with
    | nil => exact absurd rfl hl
    | cons c r => exact ⟨c, r ++ dk k, rfl, h c (by simp)⟩
  · intro c hc
    rcases List.mem_append.mp hc with hc | hc
    · exact .inl (h c hc)
    · exact .inr (dk_dg hk c hc)
  · intro e
    obtain ⟨c, r, hc⟩ : ∃ c r, dk k = c :: r := by
      cases hd : dk k with
      | nil => rw [hd] at dl; simp at dl
      | cons c r => exact ⟨c, r, rfl⟩
    have hm : c ∈ startL := by rw [← e, hc]; simp
    have hg := dk_dg hk c (by rw [hc]; simp)
    unfold startL at hm
    simp only [List.mem_cons, List.not_mem_nil, or_false] at hm
    obtain ⟨h1, h2⟩ := hg
    omega
theorem num_inj {a b : List Nat} {i j : Nat} (hi : i < 20) (hj : j < 20) (ha : ∀ c ∈ a, Lt c) (hb : ∀ c ∈ b, Lt c) (e : a ++ dk i = b ++ dk j) : i = j := by
  have f1 : ∀ {l : List Nat}, (∀ c ∈ l, Lt c) → l.filter (fun c => decide (c ≤ 57)) = [] := fun {l} h => List.filter_eq_nil_iff.mpr fun c hc => by
    have := (h c hc).1
    simp only [decide_eq_true_eq]
    omega
  have f2 : ∀ {k : Nat}, k < 20 → (dk k).filter (fun c => decide (c ≤ 57)) = dk k := fun {k} h => List.filter_eq_self.mpr fun c hc => by
    have := (dk_dg h c hc).2
    simp only [decide_eq_true_eq]
    omega
  have z := congrArg (List.filter fun c => decide (c ≤ 57)) e
  rw [List.filter_append, List.filter_append, f1 ha, f1 hb, f2 hi, f2 hj] at z
  exact dk_inj hi hj z
def lb0 (spot k : Nat) : List Nat := [97 + (spot + k) % 26]
def lb2 (stem : List Nat) (k : Nat) : List Nat := stem.take (1 + k % 6) ++ dk k
def lb3 (stem : List Nat) (at_ spot k : Nat) : List Nat := stem.take at_ ++ [97 + (spot + k) % 26] ++ stem.drop (at_ + 1)
theorem lab0 (spot m : Nat) (hm : m ≤ 20) : LabOk ((List.range m).map fun i => SX.S (lb0 spot i)) m := by
  refine lab_of (fun i j hi hj e => ?_) fun i hi => ⟨(by show 1 ≤ 8; decide), ⟨_, _, rfl, by unfold Lt; omega⟩, ?_, ?_, rfl⟩
  · unfold lb0 at e
    simp only [List.cons.injEq, and_true] at e
    omega
  · intro c hc
    unfold lb0 at hc
    rw [List.mem_singleton] at hc
    exact .inl (by unfold Lt; omega)
  · intro e
    have := congrArg List.length e
    simp [lb0, startL] at this
theorem lab1 (pre : List Nat) (m : Nat) (hm : m ≤ 20) (h0 : pre ≠ []) (h6 : pre.length ≤ 6) (h : ∀ c ∈ pre, Lt c) : LabOk ((List.range m).map fun i => SX.S (pre ++ dk i)) m :=
  lab_of (fun i j hi hj e => num_inj (by omega) (by omega) h h e) fun i hi => name_num (by omega) h0 h6 h
theorem lab2 (stem : List Nat) (m : Nat) (hm : m ≤ 20) (hl : stem.length = 7) (h : ∀ c ∈ stem, Lt c) : LabOk ((List.range m).map fun i => SX.S (lb2 stem i)) m := by
  have ht : ∀ k, ∀ c ∈ stem.take k, Lt c := fun k c hc => h c (List.mem_of_mem_take hc)
  refine lab_of (fun i j hi hj e => num_inj (by omega) (by omega) (ht _) (ht _) e) fun i hi => name_num (by omega) ?_ ?_ (ht _)
  · intro e
    have := congrArg List.length e
    rw [List.length_take, List.length_nil] at this
    omega
  · rw [List.length_take]; omega
theorem lab3 (stem : List Nat) (at_ spot m : Nat) (hm : m ≤ 20) (hl : stem.length = 7) (ha : at_ < 7) (h : ∀ c ∈ stem, Lt c) : LabOk ((List.range m).map fun i => SX.S (lb3 stem at_ spot i)) m := by
  have lt : (stem.take at_).length = at_ := by rw [List.length_take]; omega
  refine lab_of (fun i j hi hj e => ?_) fun i hi => ?_
  · unfold lb3 at e
    rw [List.append_assoc, List.append_assoc] at e
    have z := List.append_cancel_left e
    simp only [List.singleton_append, List.cons.injEq] at z
    omega
  · have ll : (lb3 stem at_ spot i).length = 7 := by
      unfold lb3
      rw [List.length_append, List.length_append, lt, List.length_drop, List.length_singleton]
      omega
    have al : ∀ c ∈ lb3 stem at_ spot i, Lt c := by
      intro c hc
      unfold lb3 at hc
      rcases List.mem_append.mp hc with hc | hc
      · rcases List.mem_append.mp hc with hc | hc
        · exact h c (List.mem_of_mem_take hc)
        · rw [List.mem_singleton] at hc
          unfold Lt
          omega
      · exact h c (List.mem_of_mem_drop hc)
    refine ⟨by omega, ?_, fun c hc => .inl (al c hc), ?_, ld_let al⟩
    · cases e : lb3 stem at_ spot i with
      | nil => rw [e] at ll; cases ll
      | cons c r => exact ⟨c, r, rfl, al c (by rw [e]; simp)⟩
    · intro e
      rw [e] at ll
      simp [startL] at ll
end K34

set_option maxHeartbeats 4000000
namespace K34
open PySem PySem.Spec PyProof.Rows L2 AT
section
variable {P : Program} {w : World} {K : PySem.W.Frag} {mg : Str → Option Value} {base : Heap}
theorem SameX.tt {p : Addr} {n : Nat} {H H' : Hp} (b : BoxAt H p n) (s : SameX p H H') : TT H H' := fun x xs e => s x _ (fun z => by
  subst z
  obtain ⟨_, _, _, e2, _⟩ := b
  rw [e] at e2
  cases e2) e
/-- [f k for k in range(m)] whose elements only make new objects -/
theorem lc_rng {m : Nat} {te : TE} {j : Nat} {vs : List Nat} {σ : L2.St} {H1 : Hp} {D : Addr} {Qd : Hp → Prop} (f : Nat → V) (hm : m < sizeLine) (hD : H1 D = none)
    (hw : ∀ x, wipe ((wipe σ vs).set j (some x)) vs = wipe σ vs)
    (he : ∀ (i : Nat) (H : Hp) (R : VK), i < m → Same H1 H → (∀ H', Same H H' → R (f i) H') → te ((wipe σ vs).set j (some (.int (i : Nat)))) H R)
    (hd : ∀ H, Same H1 H → H D = some (.lst ((List.range m).map f)) → Qd H) :
    ∃ W : Nat → Nat → Hp → Prop, (∃ m, W 0 m (upd H1 D (.lst []))) ∧ ∀ i k H, W i k H →
      ((Itr 0 m).stop i H ∧ Qd H) ∨ ((Itr 0 m).go i H ∧ ∃ Nx : Hp → Prop, (∀ H', Nx H' → ∃ m', m' < k ∧ W (i + 1) m' H') ∧ ∀ x H', (Itr 0 m).yld i H x H' → gName j x (wipe σ vs) H' fun σ2 H2 => wipe σ2 vs = wipe σ vs ∧ tYes σ2 H2 fun b H3 =>
        if b = true then te σ2 H3 fun y H4 => ∃ acc, H4 D = some (.lst acc) ∧ acc.length < sizeLine ∧ Nx (upd H4 D (.lst (acc ++ [y]))) else Nx H3) := by
  refine lc_it (walk_range (lo := 0) (n := m)) (fun i H => Same H1 H ∧ H D = some (.lst ((List.range i).map f))) ⟨AT.Same.up hD, upd_same⟩ (fun _ _ _ _ => trivial) (fun i x H H' hi hP hY => ?_) (fun H hP => hd H hP.1 hP.2)
  obtain ⟨sm, hl⟩ := hP
  obtain ⟨rfl, rfl⟩ := hY
  refine ⟨hw _, ?_⟩
  dsimp only [tYes]
  refine iteT ?_
  have e : (0 : Int) + (i : Nat) = (i : Nat) := by omega
  rw [e]
  refine he i H' _ hi sm fun H2 s2 => ⟨_, s2 _ _ hl, by rw [List.length_map, List.length_range]; omega, AT.Same.new (sm.trans s2) hD, ?_⟩
  rw [upd_same, List.range_succ, List.map_append]
  rfl
theorem box_ne2 {H : Hp} {p q : Addr} {n : Nat} (hb : BoxAt H p n) (hq : H q = none) : q ≠ p := by
  obtain ⟨a, b, c, e, _⟩ := hb
  rintro rfl
  rw [hq] at e
  cases e
theorem SameX.new {p D : Addr} {H H' : Hp} {o : HO} (s : SameX p H H') (g : H D = none) : SameX p H (upd H' D o) := fun b u hb e => by
  rw [upd_ne (ne_of_none e g)]
  exact s b u hb e
theorem BoxAt.upd {H : Hp} {p D : Addr} {n : Nat} {o : HO} (h : BoxAt H p n) (g : D ≠ p) : BoxAt (upd H D o) p n := by
  obtain ⟨a, b, c, e, r⟩ := h
  exact ⟨a, b, c, by rw [upd_ne (Ne.symm g)]; exact e, r⟩
end
end K34

set_option maxHeartbeats 4000000
namespace K34
open PySem PySem.Spec PyProof.Rows L2 AT
section
variable {P : Program} {w : World} {K : PySem.W.Frag} {mg : Str → Option Value} {base : Heap}
/-- pairs of numbers that stand in the heap -/
def KnT (l : List (Addr × Int × Int)) (H : Hp) : Prop := ∀ x ∈ l, H x.1 = some (.tup [.int x.2.1, .int x.2.2])
theorem KnT.up {l : List (Addr × Int × Int)} {H H' : Hp} (h : KnT l H) (t : TT H H') : KnT l H' := fun x hx => t _ _ (h x hx)
theorem KnT.add {l : List (Addr × Int × Int)} {H : Hp} {t : Addr} {a b : Int} (h : KnT l H) (g : H t = none) : KnT (l ++ [(t, a, b)]) (upd H t (.tup [.int a, .int b])) := fun x hx => by
  rcases List.mem_append.mp hx with hx | hx
  · exact (TT.new g) _ _ (h x hx)
  · rw [List.mem_singleton] at hx
    subst hx
    exact upd_same
theorem big {x : Int} (h : x.natAbs ≤ 1000000000000000000000000000000) : x.natAbs < 2 ^ 8000 := Nat.lt_of_le_of_lt h (by decide +kernel)
/-- a small amount -/
structure SmQ (q : Rat) : Prop where
  b : Bits 10 q
  d : q.den ≤ 1000
theorem den_le {t b : Int} (hb : 1 ≤ b) : ((Rat.divInt t b).den : Int) ≤ b := by
  rw [Rat.den_divInt, if_neg (by omega)]
  have := Nat.div_le_self b.natAbs (b.gcd t)
  first | omega | (have := Nat.div_le_self b.natAbs (t.gcd b); omega)
theorem b10_frac {t b : Int} (ht : t.natAbs ≤ 1000) (hb : 1 ≤ b) (hb2 : b ≤ 1000) : SmQ (Rat.divInt t b) := ⟨bits_of (by omega) (Nat.lt_of_le_of_lt ht (by decide)) (Nat.lt_of_le_of_lt (show b.natAbs ≤ 1000 by omega) (by decide)), by have := den_le (t := t) hb; omega⟩
theorem b10_sz {q : Rat} (h : SmQ q) : SzB 1 q := ⟨h.b.mono (by decide), Nat.le_refl _⟩
theorem sign_at {r : Int} (h0 : 0 ≤ r) (h1 : r < 3) : ∃ s : Int, atI [V.int 1, V.int 1, V.int (0 - 1)] r = some (.int s) ∧ (s = 1 ∨ s = -1) := by
  obtain rfl | rfl | rfl : r = 0 ∨ r = 1 ∨ r = 2 := by omega
  all_goals exact ⟨_, rfl, by decide⟩
theorem eight_at {r : Int} (h0 : 0 ≤ r) (h1 : r < 8) (a b c d e f g h : V) : ∃ v, atI [a, b, c, d, e, f, g, h] r = some v ∧ v ∈ [a, b, c, d, e, f, g, h] := by
  obtain ⟨n, rfl⟩ := Int.eq_ofNat_of_zero_le h0
  have z : n < [a, b, c, d, e, f, g, h].length := by show n < 8; omega
  exact ⟨_, atI_nat (List.getElem?_eq_getElem z), List.getElem_mem z⟩
def spAm : Sp := fun vs H Q _ => ∃ (p : Addr) (n : Nat), vs = [.ref p] ∧ BoxAt H p n ∧ n ≤ 10000 ∧ ∀ v q H', SameX p H H' → BoxAt H' p (n + 7) → PQ H' v q → SmQ q → Q v H'
theorem sc_w_amount : FnScope ["_law_box_here", "_law_plain_here", "_law_top", "_law_bottom"] ["_law_box_here"] (defScope s_w_amount) := ⟨rfl, rfl, rfl, by decide +kernel, rfl, by decide +kernel, by decide +kernel⟩
theorem ok_w_amount (T : Tx K mg base) : Ok P w K mg base 2 (d_w_amount.loc K) ["_law_box_here"] spAm := by
  refine mk_ok (k := 1) T.f_w_amount sc_w_amount (fun _ _ _ _ _ _ us hl => match us, hl with | [_], _ => rfl) (fun vs H Q E h => ?_) (fun cdv A outer s H vs Q E hr h => ?_)
  · obtain ⟨p, n, rfl, _⟩ := h
    rfl
  · obtain ⟨p, n, rfl, hb, hn, k⟩ := h
    refine ⟨_, (pss_cons (ps_set (i := 1) sc_w_amount.nd rfl (Or.inl rfl) (pe_lst (pa_cons (pe_tup (pa_cons pe_int (pa_cons pe_int pa_nil))) (pa_cons (pe_tup (pa_cons pe_int (pa_cons pe_int pa_nil))) (pa_cons (pe_tup (pa_cons pe_int (pa_cons pe_int pa_nil))) (pa_cons (pe_tup (pa_cons (pe_op op_add pe_int (ok_call (ok_w_take T) (hr.mono (by decide)) rfl T.g_w_take passL (pa_cons (pv 0) (pa_cons pe_int pa_nil)))) (pa_cons pe_int pa_nil))) (pa_cons (pe_tup (pa_cons (pe_op op_add pe_int (ok_call (ok_w_take T) (hr.mono (by decide)) rfl T.g_w_take passL (pa_cons (pv 0) (pa_cons pe_int pa_nil)))) (pa_cons (pe_op op_add pe_int (ok_call (ok_w_take T) (hr.mono (by decide)) rfl T.g_w_take passL (pa_cons (pv 0) (pa_cons pe_int pa_nil)))) pa_nil))) (pa_cons (pe_tup (pa_cons pe_int (pa_cons pe_int pa_nil))) pa_nil))))))))
      (pss_cons (ps_set (i := 1) sc_w_amount.nd rfl (Or.inl rfl) (pe_op op_cat (pv 1) (pe_lst (pa_cons (pe_tup (pa_cons pe_int (pa_cons pe_int pa_nil))) (pa_cons (pe_tup (pa_cons (pe_op op_add pe_int (ok_call (ok_w_take T) (hr.mono (by decide)) rfl T.g_w_take passL (pa_cons (pv 0) (pa_cons pe_int pa_nil)))) (pa_cons (pe_op op_add pe_int (ok_call (ok_w_take T) (hr.mono (by decide)) rfl T.g_w_take passL (pa_cons (pv 0) (pa_cons pe_int pa_nil)))) pa_nil))) pa_nil)))))
      (pss_cons (ps_asg (pe_ix ix_list (pv 1) (ok_call (ok_w_take T) (hr.mono (by decide)) rfl T.g_w_take passL (pa_cons (pv 0) (pa_cons pe_int pa_nil))) (fun _ _ => rfl)) (pg_tup rfl (pgs_cons (pg_name (i := 2) sc_w_amount.nd rfl (Or.inl rfl)) (pgs_cons (pg_name (i := 3) sc_w_amount.nd rfl (Or.inl rfl)) pgs_nil))))
      (pss_one (ps_ret (ok_call (ok_w_lowest T) (hr.mono (by decide)) rfl T.g_w_lowest passL (pa_cons (pe_op op_mulW (pe_ix ix_list (pe_lst (pa_cons pe_int (pa_cons pe_int (pa_cons (pe_op op_sub pe_int pe_int) pa_nil)))) (ok_call (ok_w_take T) (hr.mono (by decide)) rfl T.g_w_take passL (pa_cons (pv 0) (pa_cons pe_int pa_nil))) (fun _ _ => rfl)) (pv 2)) (pa_cons (pv 3) pa_nil)))))))), ?_⟩
    have hsz : sizeLine = 16777216 := sizeLine_eq
    have z2 : 2 ≤ sizeLine := by omega
    have k0 : KnT [] H := fun x hx => nomatch hx
    have x0 := SameX.refl p H
    have b0 := hb
    refine ⟨z2, fun t1 g1 => ?_⟩
    have bb1 := b0.up (AT.Same.up (o := .tup [.int (1), .int (1)]) g1)
    have xx1 := x0.trans (sameX_of (AT.Same.up (o := .tup [.int (1), .int (1)]) g1))
    have kk1 := k0.add (a := (1)) (b := (1)) g1
    generalize upd H t1 (.tup [.int (1), .int (1)]) = J1 at bb1 xx1 kk1 ⊢
    refine ⟨z2, fun t2 g2 => ?_⟩
    have bb2 := bb1.up (AT.Same.up (o := .tup [.int (2), .int (1)]) g2)
    have xx2 := xx1.trans (sameX_of (AT.Same.up (o := .tup [.int (2), .int (1)]) g2))
    have kk2 := kk1.add (a := (2)) (b := (1)) g2
    generalize upd J1 t2 (.tup [.int (2), .int (1)]) = J2 at bb2 xx2 kk2 ⊢
    refine ⟨z2, fun t3 g3 => ?_⟩
    have bb3 := bb2.up (AT.Same.up (o := .tup [.int (1), .int (2)]) g3)
    have xx3 := xx2.trans (sameX_of (AT.Same.up (o := .tup [.int (1), .int (2)]) g3))
    have kk3 := kk2.add (a := (1)) (b := (2)) g3
    generalize upd J2 t3 (.tup [.int (1), .int (2)]) = J3 at bb3 xx3 kk3 ⊢
    refine ⟨_, rfl, p, _, _, rfl, bb3, (by omega), (by decide), (by decide +kernel), fun u1 L1 l1 m1 y1 d1 => ?_⟩
    have x101' := xx3.trans y1
    have k101' := kk3.up (SameX.tt bb3 y1)
    refine ⟨_, _, rfl, rfl, ?_⟩
    refine ⟨z2, fun t4 g4 => ?_⟩
    have bb4 := d1.up (AT.Same.up (o := .tup [.int (1 + u1), .int (1)]) g4)
    have xx4 := x101'.trans (sameX_of (AT.Same.up (o := .tup [.int (1 + u1), .int (1)]) g4))
    have kk4 := k101'.add (a := (1 + u1)) (b := (1)) g4
    generalize upd L1 t4 (.tup [.int (1 + u1), .int (1)]) = J4 at bb4 xx4 kk4 ⊢
    refine ⟨_, rfl, p, _, _, rfl, bb4, (by omega), (by decide), (by decide +kernel), fun u2 L2 l2 m2 y2 d2 => ?_⟩
    have x102' := xx4.trans y2
    have k102' := kk4.up (SameX.tt bb4 y2)
    refine ⟨_, _, rfl, rfl, ?_⟩
    refine ⟨_, rfl, p, _, _, rfl, d2, (by omega), (by decide), (by decide +kernel), fun u3 L3 l3 m3 y3 d3 => ?_⟩
    have x103' := x102'.trans y3
    have k103' := k102'.up (SameX.tt d2 y3)
    refine ⟨_, _, rfl, rfl, ?_⟩
    refine ⟨z2, fun t5 g5 => ?_⟩
    have bb5 := d3.up (AT.Same.up (o := .tup [.int (1 + u2), .int (1 + u3)]) g5)
    have xx5 := x103'.trans (sameX_of (AT.Same.up (o := .tup [.int (1 + u2), .int (1 + u3)]) g5))
    have kk5 := k103'.add (a := (1 + u2)) (b := (1 + u3)) g5
    generalize upd L3 t5 (.tup [.int (1 + u2), .int (1 + u3)]) = J5 at bb5 xx5 kk5 ⊢
    refine ⟨z2, fun t6 g6 => ?_⟩
    have bb6 := bb5.up (AT.Same.up (o := .tup [.int (0), .int (1)]) g6)
    have xx6 := xx5.trans (sameX_of (AT.Same.up (o := .tup [.int (0), .int (1)]) g6))
    have kk6 := kk5.add (a := (0)) (b := (1)) g6
    generalize upd J5 t6 (.tup [.int (0), .int (1)]) = J6 at bb6 xx6 kk6 ⊢
    refine ⟨(by show 6 ≤ sizeLine; omega), fun D gD => ?_⟩
    have hD : upd J6 D (.lst [.ref t1, .ref t2, .ref t3, .ref t4, .ref t5, .ref t6]) D = some (.lst [.ref t1, .ref t2, .ref t3, .ref t4, .ref t5, .ref t6]) := upd_same
    have bD := bb6.up (AT.Same.up (o := .lst [.ref t1, .ref t2, .ref t3, .ref t4, .ref t5, .ref t6]) gD)
    have xD := xx6.trans (sameX_of (AT.Same.up (o := .lst [.ref t1, .ref t2, .ref t3, .ref t4, .ref t5, .ref t6]) gD))
    have kD := kk6.up (TT.new (u := .lst [.ref t1, .ref t2, .ref t3, .ref t4, .ref t5, .ref t6]) gD)
    have nD := box_ne2 bb6 gD
    generalize upd J6 D (.lst [.ref t1, .ref t2, .ref t3, .ref t4, .ref t5, .ref t6]) = HD at hD bD xD kD ⊢
    have zD := SameX.refl p HD
    refine ⟨_, rfl, ?_⟩
    refine ⟨z2, fun t7 g7 => ?_⟩
    have bb7 := bD.up (AT.Same.up (o := .tup [.int (3), .int (2)]) g7)
    have xx7 := xD.trans (sameX_of (AT.Same.up (o := .tup [.int (3), .int (2)]) g7))
    have kk7 := kD.add (a := (3)) (b := (2)) g7
    have zz7 := zD.trans (sameX_of (AT.Same.up (o := .tup [.int (3), .int (2)]) g7))
    generalize upd HD t7 (.tup [.int (3), .int (2)]) = J7 at bb7 xx7 kk7 zz7 ⊢
    refine ⟨_, rfl, p, _, _, rfl, bb7, (by omega), (by decide), (by decide +kernel), fun u4 L4 l4 m4 y4 d4 => ?_⟩
    have x104' := xx7.trans y4
    have k104' := kk7.up (SameX.tt bb7 y4)
    have z104' := zz7.trans y4
    refine ⟨_, _, rfl, rfl, ?_⟩
    refine ⟨_, rfl, p, _, _, rfl, d4, (by omega), (by decide), (by decide +kernel), fun u5 L5 l5 m5 y5 d5 => ?_⟩
    have x105' := x104'.trans y5
    have k105' := k104'.up (SameX.tt d4 y5)
    have z105' := z104'.trans y5
    refine ⟨_, _, rfl, rfl, ?_⟩
    refine ⟨z2, fun t8 g8 => ?_⟩
    have bb8 := d5.up (AT.Same.up (o := .tup [.int (1 + u4), .int (1 + u5)]) g8)
    have xx8 := x105'.trans (sameX_of (AT.Same.up (o := .tup [.int (1 + u4), .int (1 + u5)]) g8))
    have kk8 := k105'.add (a := (1 + u4)) (b := (1 + u5)) g8
    have zz8 := z105'.trans (sameX_of (AT.Same.up (o := .tup [.int (1 + u4), .int (1 + u5)]) g8))
    generalize upd L5 t8 (.tup [.int (1 + u4), .int (1 + u5)]) = J8 at bb8 xx8 kk8 zz8 ⊢
    refine ⟨(by show 2 ≤ sizeLine; omega), fun D2 gD2 => ?_⟩
    have hDe := zz8 _ _ nD hD
    have hDf := (AT.Same.up (o := .lst [.ref t7, .ref t8]) gD2) _ _ hDe
    refine ⟨D, D2, _, _, rfl, rfl, hDf, upd_same, (by show 6 + 2 ≤ sizeLine; omega), fun D3 gD3 => ?_⟩
    have sE := (AT.Same.up (o := .lst [.ref t7, .ref t8]) gD2).trans (AT.Same.up (o := .lst ([.ref t1, .ref t2, .ref t3, .ref t4, .ref t5, .ref t6] ++ [.ref t7, .ref t8])) gD3)
    have bE := bb8.up sE
    have xE := xx8.trans (sameX_of sE)
    have kE := kk8.up (TT.of sE)
    have nD3 : D3 ≠ p := box_ne2 (bb8.up (AT.Same.up (o := .lst [.ref t7, .ref t8]) gD2)) gD3
    have hD3 : upd (upd J8 D2 (.lst [.ref t7, .ref t8])) D3 (.lst ([.ref t1, .ref t2, .ref t3, .ref t4, .ref t5, .ref t6] ++ [.ref t7, .ref t8])) D3 = some (.lst ([.ref t1, .ref t2, .ref t3, .ref t4, .ref t5, .ref t6] ++ [.ref t7, .ref t8])) := upd_same
    generalize upd (upd J8 D2 (.lst [.ref t7, .ref t8])) D3 (.lst ([.ref t1, .ref t2, .ref t3, .ref t4, .ref t5, .ref t6] ++ [.ref t7, .ref t8])) = HE at bE xE kE hD3 ⊢
    refine ⟨_, rfl, _, rfl, p, _, _, rfl, bE, (by omega), (by decide), (by decide +kernel), fun u6 L6 l6 m6 y6 d6 => ?_⟩
    obtain ⟨v, hv1, hv2⟩ := eight_at l6 m6 (.ref t1) (.ref t2) (.ref t3) (.ref t4) (.ref t5) (.ref t6) (.ref t7) (.ref t8)
    have x106' := xE.trans y6
    have k106' := kE.up (SameX.tt bE y6)
    refine ⟨D3, _, _, v, rfl, rfl, SqL.of (y6 _ _ nD3 hD3), hv1, ?_⟩
    obtain ⟨tv, T1, B1, rfl, htv, hT, hB1, hB2⟩ : ∃ tv, ∃ T1 B1 : Int, v = .ref tv ∧ L6 tv = some (.tup [.int T1, .int B1]) ∧ T1.natAbs ≤ 1000 ∧ 1 ≤ B1 ∧ B1 ≤ 1000 := by
      have m4' : u4 < 1000 := m4
      have m5' : u5 < 1000 := m5
      simp only [List.mem_cons, List.not_mem_nil, or_false] at hv2
      rcases hv2 with rfl | rfl | rfl | rfl | rfl | rfl | rfl | rfl
      · exact ⟨t1, 1, 1, rfl, k106' (t1, 1, 1) (by simp), by omega, by omega, by omega⟩
      · exact ⟨t2, 2, 1, rfl, k106' (t2, 2, 1) (by simp), by omega, by omega, by omega⟩
      · exact ⟨t3, 1, 2, rfl, k106' (t3, 1, 2) (by simp), by omega, by omega, by omega⟩
      · exact ⟨t4, 1 + u1, 1, rfl, k106' (t4, 1 + u1, 1) (by simp), by omega, by omega, by omega⟩
      · exact ⟨t5, 1 + u2, 1 + u3, rfl, k106' (t5, 1 + u2, 1 + u3) (by simp), by omega, by omega, by omega⟩
      · exact ⟨t6, 0, 1, rfl, k106' (t6, 0, 1) (by simp), by omega, by omega, by omega⟩
      · exact ⟨t7, 3, 2, rfl, k106' (t7, 3, 2) (by simp), by omega, by omega, by omega⟩
      · exact ⟨t8, 1 + u4, 1 + u5, rfl, k106' (t8, 1 + u4, 1 + u5) (by simp), by omega, by omega, by omega⟩
    refine ⟨tv, _, rfl, SqT.of htv, rfl, _, _, rfl, _, _, rfl, rfl, ?_⟩
    refine ⟨_, _, rfl, rfl, (by show 3 ≤ sizeLine; omega), fun q gq => ⟨_, rfl, p, _, _, rfl, d6.up (AT.Same.up gq), (by omega), (by decide), (by decide +kernel), fun r1 H1 a1 a2 x1 b1 => ?_⟩⟩
    obtain ⟨sg, hsg, hs1⟩ := sign_at a1 a2
    refine ⟨q, _, _, _, rfl, rfl, SqL.of (x1 _ _ (box_ne2 d6 gq) upd_same), hsg, ?_⟩
    have xF := x106'.trans ((sameX_of (p := p) (AT.Same.up (o := .lst [.int 1, .int 1, .int (0 - 1)]) gq)).trans x1)
    refine ⟨_, rfl, _, _, rfl, rfl, ?_, _, rfl, sg * T1, B1, rfl, (by omega), ?_, big (by omega), fun u H' s' hu e' => ?_⟩
    · refine wide_mul (a := 10) (b := 64) ?_ ?_ (by decide) (by decide) (by decide)
      · rcases hs1 with rfl | rfl <;> decide
      · exact Nat.lt_of_le_of_lt hT (by decide)
    · refine big ?_
      rw [Int.natAbs_mul]
      rcases hs1 with rfl | rfl <;> (show 1 * T1.natAbs ≤ _; omega)
    · refine k _ _ H' (xF.trans (sameX_of s')) ((b1.up s').mono (by omega)) ⟨u, rfl, e'⟩ (b10_frac ?_ hB1 hB2)
      rw [Int.natAbs_mul]
      rcases hs1 with rfl | rfl <;> (show 1 * T1.natAbs ≤ _; omega)
end
end K34

set_option maxHeartbeats 4000000
namespace K34
open PySem PySem.Spec PyProof.Rows L2 AT
/-! ### rows of the law: tuples of (unit, (top, bottom)) -/
def MbL (H : Hp) (v : V) (m : Bool × Rat) : Prop := ∃ t pr, v = .ref t ∧ H t = some (.tup [.str (uS m.1), .ref pr]) ∧ H pr = some (pairQ m.2)
def RwL (H : Hp) (v : V) (r : Row) : Prop := ∃ a xs, v = .ref a ∧ H a = some (.tup xs) ∧ Paired (MbL H) xs r
theorem MbL.up {H H' : Hp} {v : V} {m : Bool × Rat} (h : MbL H v m) (s : TT H H') : MbL H' v m := by
  obtain ⟨t, pr, e, h1, h2⟩ := h
  exact ⟨t, pr, e, s _ _ h1, s _ _ h2⟩
theorem RwL.up {H H' : Hp} {v : V} {r : Row} (h : RwL H v r) (s : TT H H') : RwL H' v r := by
  obtain ⟨a, xs, e, h1, h2⟩ := h
  exact ⟨a, xs, e, s _ _ h1, Paired.mapP h2 fun _ _ z => z.up s⟩
theorem PQ.tt {H H' : Hp} {v : V} {q : Rat} (h : PQ H v q) (s : TT H H') : PQ H' v q := h.imp fun _ z => ⟨z.1, s _ _ z.2⟩
theorem RwL.nil {H : Hp} {a : Addr} (h : H a = some (.tup [])) : RwL H (.ref a) [] := ⟨a, [], rfl, h, .nil⟩
def pairD (q : Rat) : PyData := .tuple [.int q.num, .int q.den]
def memDL (m : Bool × Rat) : PyData := .tuple [.str (uS m.1), pairD m.2]
def rowDL (r : Row) : PyData := .tuple (r.map memDL)
theorem MbL.dp {K : PySem.W.Frag} {H : Hp} {v : V} {m : Bool × Rat} (h : MbL H v m) : Dp K H v (memDL m) := by
  obtain ⟨t, pr, rfl, e, e2⟩ := h
  exact .tup (SqT.of e) (.cons (.str _) (.cons (.tup (SqT.of e2) (.cons (.int _) (.cons (.int _) .nil))) .nil))
theorem RwL.dp {K : PySem.W.Frag} {H : Hp} {v : V} {r : Row} (h : RwL H v r) : Dp K H v (rowDL r) := by
  obtain ⟨a, xs, rfl, h1, h2⟩ := h
  exact .tup (SqT.of h1) (dpall (fun _ _ z => z.dp) h2)
theorem pairD_eqv (q p : Rat) : PyData.eqv (pairD q) (pairD p) = decide (q = p) := by
  have e : PyData.eqv (pairD q) (pairD p) = (((q.num : Int) == p.num) && ((((q.den : Nat) : Int) == (p.den : Int)) && true)) := by simp only [pairD, PyData.eqv, PyData.eqvAll]
  rw [e, Bool.eq_iff_iff]
  simp only [Bool.and_eq_true, beq_iff_eq, decide_eq_true_eq, and_true]
  exact ⟨fun ⟨h2, h3⟩ => Rat.ext h2 (by omega), fun h2 => by subst h2; exact ⟨rfl, rfl⟩⟩
theorem memDL_eqv (m n : Bool × Rat) : PyData.eqv (memDL m) (memDL n) = decide (m = n) := by
  obtain ⟨u, q⟩ := m
  obtain ⟨v, p⟩ := n
  have e : PyData.eqv (memDL (u, q)) (memDL (v, p)) = ((uS u == uS v) && (PyData.eqv (pairD q) (pairD p) && true)) := by simp only [memDL, PyData.eqv, PyData.eqvAll]
  rw [e, pairD_eqv, Bool.eq_iff_iff]
  simp only [Bool.and_eq_true, beq_iff_eq, decide_eq_true_eq, Prod.mk.injEq, and_true]
  exact ⟨fun ⟨h1, h2⟩ => ⟨uS_inj h1, h2⟩, fun ⟨h1, h2⟩ => by subst h1 h2; exact ⟨rfl, rfl⟩⟩
theorem rowDL_eqv (r s : Row) : PyData.eqv (rowDL r) (rowDL s) = decide (r = s) := by
  have e : PyData.eqv (rowDL r) (rowDL s) = PyData.eqvAll (r.map memDL) (s.map memDL) := by simp only [rowDL, PyData.eqv]
  rw [e, eqvAll_map memDL_eqv]
theorem pairD_lay (q : Rat) : (pairD q).canLay0 = true := by simp [pairD, PyData.canLay0, PyData.canLayAll0]
theorem pairD_depth (q : Rat) : (pairD q).depth ≤ 1 := by simp [pairD, PyData.depth, PyData.depthAll]
theorem memDL_lay (m : Bool × Rat) : (memDL m).canLay0 = true := by simp [memDL, PyData.canLay0, PyData.canLayAll0, uS_ok, pairD_lay]
theorem memDL_depth (m : Bool × Rat) : (memDL m).depth ≤ 2 := by
  have := pairD_depth m.2
  simp only [memDL, PyData.depth, PyData.depthAll]
  omega
theorem rowDL_lay (r : Row) : (rowDL r).canLay0 = true := by
  simp only [rowDL, PyData.canLay0]
  exact lay_all memDL_lay r
theorem rowDL_depth (r : Row) : (rowDL r).depth ≤ 3 := by
  have := depth_all memDL_depth r
  simp only [rowDL, PyData.depth]
  omega
theorem rowDL_shaped (r : Row) : SeqAt.shaped (rowDL r) = true := shaped_of (rowDL_lay r) (rowDL_depth r) (by decide)
theorem rowsDL_shaped (rs : List Row) : SeqAt.shaped (.list (rs.map rowDL)) = true := by
  refine shaped_of (n := 4) ?_ ?_ (by decide)
  · simp only [PyData.canLay0]
    exact lay_all rowDL_lay rs
  · have := depth_all rowDL_depth rs
    simp only [PyData.depth]
    omega
theorem rowDL_nilY {r : Row} (h : r = []) : PyData.eqv (rowDL r) (.tuple []) = true := by subst h; rfl
theorem rowDL_nilN {r : Row} (h : r ≠ []) : PyData.eqv (rowDL r) (.tuple []) = false := by
  have e := rowDL_eqv r []
  rw [decide_eq_false h] at e
  exact e
section
variable {P : Program} {w : World} {K : PySem.W.Frag} {mg : Str → Option Value} {base : Heap}
theorem sl_rowL {H : Hp} {a : Addr} {xs : List V} {r : Row} {m : Nat} (ha : H a = some (.tup xs)) (hx : Paired (MbL H) xs r) {Q : VK} (k : ∀ v H', Same H H' → RwL H' v (r.take m) → Q v H') : rSlA K (.ref a) none (some (m : Int)) H Q := by
  refine ⟨a, xs, rfl, SqT.of ha, fun h => ?_, fun _ p hp => ?_⟩
  · refine k _ _ (Same.refl _) ⟨a, xs, rfl, ha, ?_⟩
    have e := h.2
    rw [HT.sIx_nat] at e
    have e2 : xs.length ≤ m := by omega
    rw [List.take_of_length_le (by rw [← hx.length]; exact e2)]
    exact hx
  · have s := AT.Same.up (o := .tup (cutV xs none (some (m : Int)))) hp
    refine k _ _ s ⟨p, _, rfl, upd_same, ?_⟩
    rw [cut_to]
    exact Paired.mapP (prd_take hx m) fun _ _ z => z.up (TT.new hp)
def spLedL : Sp := fun vs H Q _ => ∃ v u av r q, vs = [v, .str (uS u), av] ∧ RwL H v r ∧ PQ H av q ∧ PR.Red r ∧ okE r u q ∧ r.length < 1000 ∧ ∀ v2 H', Same H H' → RwL H' v2 (PR.led r u q) → Q v2 H'
theorem sc_w_led : FnScope ["_law_row", "_law_unit", "_law_amount_here"] ["_law_row", "_law_unit", "_law_amount_here"] (defScope s_w_led) := ⟨rfl, rfl, rfl, by decide +kernel, rfl, by decide +kernel, by decide +kernel⟩
theorem ok_w_led (T : Tx K mg base) : Ok P w K mg base 3 (d_w_led.loc K) ["_law_row", "_law_unit", "_law_amount_here"] spLedL := by
  refine mk_ok (k := 2) T.f_w_led sc_w_led (fun _ _ _ _ _ _ us hl => match us, hl with | [_, _, _], _ => rfl) (fun vs H Q E h => ?_) (fun cdv A outer s H vs Q E hr h => ?_)
  · obtain ⟨v, u, av, r, q, rfl, _⟩ := h
    rfl
  · obtain ⟨v, u, av, r, q, rfl, hv, hq, hred, ⟨hb, hbq⟩, hlen, k⟩ := h
    refine ⟨_, (Evl.pss_cut (ps_if (PW.pt (pw_and (pt_cmpR (op_neD hr.units) (pv 0) (pe_tup pa_nil) (nomark _)) (pw_and1 (pt_cmpR op_eq (pe_ix ix_tup (pe_ix ix_tup (pv 0) (pe_un un_neg pe_int) (fun _ _ => rfl)) pe_int (fun _ _ => rfl)) (pv 1) (nomark _))))) (pss_one (ps_par (by rfl) sc_w_led.nd (i := 2) (j := 0) rfl rfl (by decide) rfl rfl (pa_cons (ok_call (ok_w_added T) (hr.mono (by decide)) rfl T.g_w_added passL (pa_cons (pe_ix ix_tup (pe_ix ix_tup (pv 0) (pe_un un_neg pe_int) (fun _ _ => rfl)) pe_int (fun _ _ => rfl)) (pa_cons (pv 2) pa_nil))) (pa_cons (pe_slice sl_tup (pv 0) po_none (po_some (pe_un un_neg pe_int))) pa_nil)) (by rfl))) pss_nil)
      (pss_one (ps_ret (pe_ifExp (pt_cmpR op_ne (pe_ix ix_tup (pv 2) pe_int (fun _ _ => rfl)) pe_int (nomark _)) (pe_op op_catA (pv 0) (pe_tup (pa_cons (pe_tup (pa_cons (pv 1) (pa_cons (pv 2) pa_nil))) pa_nil))) (pv 0))))), ?_⟩
    obtain ⟨a, xs, rfl, ha, hx⟩ := id hv
    have hxl := hx.length
    refine ⟨fun σ' H' => ∃ v' av' r' q', σ' = ([some v', some (.str (uS u)), some av'] : L2.St) ∧ Same H H' ∧ RwL H' v' r' ∧ PQ H' av' q' ∧ r'.length < 1000 ∧ PR.led r u q = if q' = 0 then r' else r' ++ [(u, q')], ?_, ?_⟩
    · refine ⟨_, rfl, Nat.zero_le _, fun t0 g0 => ?_⟩
      have s0 := AT.Same.up (o := .tup []) g0
      have hv0 := hv.up (TT.of s0)
      have hq0 := hq.up s0
      refine ⟨_, _, hv0.dp, .tup (SqT.of upd_same) .nil, rowDL_shaped _, (by decide +kernel), _, rfl, ?_⟩
      generalize upd H t0 (.tup []) = H0 at s0 hv0 hq0 ⊢
      have ha0 := s0 _ _ ha
      have hx0 : Paired (MbL H0) xs r := Paired.mapP hx fun _ _ z => z.up (TT.of s0)
      cases e : r.getLast? with
      | none =>
        have e1 : r = [] := List.getLast?_eq_none_iff.mp e
        rw [rowDL_nilY e1]
        refine iteF (iteF ⟨_, _, r, q, rfl, s0, hv0, hq0, hlen, ?_⟩)
        exact PR.led_app (by rw [e]; intro n z; cases z)
      | some m =>
        have ne : r ≠ [] := by rintro rfl; cases e
        rw [rowDL_nilN ne]
        obtain ⟨x, e1, t, pr, rfl, e2, e3⟩ := prd_last hx0 e
        refine iteT ⟨_, rfl, _, rfl, a, xs, -1, _, rfl, rfl, SqT.of ha0, last_at e1, t, _, 0, _, rfl, rfl, SqT.of e2, rfl, _, rfl, rfl, _, rfl, ?_⟩
        rw [uS_dec]
        by_cases c : m.1 = u
        · rw [decide_eq_true c]
          have bm := hb m (List.mem_of_getLast? e)
          refine iteT ⟨_, rfl, _, rfl, a, xs, -1, _, rfl, rfl, SqT.of ha0, last_at e1, t, _, 1, _, rfl, rfl, SqT.of e2, rfl, _, rfl, _, av, m.2, q, rfl, ⟨pr, rfl, e3⟩, hq0, bm, hbq, fun v3 H3 s3 hv3 => ?_⟩
          have hpos : 0 < xs.length := by
            cases xs with
            | nil => cases e1
            | cons => simp
          have ha3 := s3 _ _ ha0
          refine ⟨_, rfl, _, rfl, _, rfl, a, xs, rfl, SqT.of ha3, cut_initN hpos, fun b gb => ?_⟩
          have s4 := AT.Same.up (o := .tup (cutV xs none (some (-1)))) gb
          refine ⟨_, _, rfl, _, _, r.dropLast, m.2 + q, rfl, s0.trans (s3.trans s4), ⟨b, _, rfl, upd_same, ?_⟩, hv3.up s4, by rw [List.length_dropLast]; omega, ?_⟩
          · have z := Paired.mapP (prd_take hx0 (r.length - 1)) fun _ _ z => z.up (TT.of (s3.trans s4))
            rw [← List.dropLast_eq_take, ← hxl, ← List.dropLast_eq_take, ← cut_init] at z
            exact z
          · rw [PR.led_same hred e c, PR.led_app fun n z => c ▸ PR.red_last2 hred e z]
        · rw [decide_eq_false c]
          exact iteF ⟨_, _, r, q, rfl, s0, hv0, hq0, hlen, PR.led_app (by rw [e]; intro n z; cases z; exact c)⟩
    · rintro σ' H1 ⟨v', av', r', q', rfl, s1, hv1, hq1, hl1, hled⟩
      obtain ⟨pa, rfl, hpa⟩ := id hq1
      refine ⟨_, rfl, pa, _, 0, _, rfl, rfl, SqT.of hpa, rfl, rfl, _, rfl, ?_⟩
      have nz : (V.int q'.num = V.int 0) ↔ q' = 0 := ⟨fun z => Rat.num_eq_zero.mp (V.int.inj z), fun z => by rw [z]; rfl⟩
      by_cases c : q' = 0
      · rw [decide_eq_true (nz.mpr c)]
        refine iteF ⟨_, rfl, k _ _ s1 ?_⟩
        rw [hled, if_pos c]
        exact hv1
      · rw [decide_eq_false (fun z => c (nz.mp z))]
        obtain ⟨a1, xs1, rfl, ha1, hx1⟩ := id hv1
        have hxl1 := hx1.length
        have hsz : sizeLine = 16777216 := sizeLine_eq
        refine iteT ⟨_, rfl, _, rfl, _, rfl, (by show 2 ≤ sizeLine; decide), fun t gt => ⟨(by show 1 ≤ sizeLine; decide), fun t2 gt2 => ?_⟩⟩
        have s2 := AT.Same.up (o := .tup [.str (uS u), .ref pa]) gt
        have s3 := AT.Same.up (o := .tup [.ref t]) gt2
        have ht3 : upd (upd H1 t (.tup [.str (uS u), .ref pa])) t2 (.tup [.ref t]) t = some (.tup [.str (uS u), .ref pa]) := s3 _ _ upd_same
        have hp3 := (s2.trans s3) _ _ hpa
        refine ⟨a1, t2, xs1, [.ref t], rfl, rfl, SqT.of ((s2.trans s3) _ _ ha1), SqT.of upd_same, (by rw [List.length_singleton]; omega), fun e => ?_, (fun _ e => nomatch e), fun _ _ p gp => ?_⟩
        · subst e
          cases hx1
          refine k _ _ (s1.trans (s2.trans s3)) ⟨t2, _, rfl, upd_same, ?_⟩
          rw [hled, if_neg c]
          exact .cons ⟨t, pa, rfl, ht3, hp3⟩ .nil
        · have s4 := AT.Same.up (o := .tup (xs1 ++ [.ref t])) gp
          refine k _ _ ((s1.trans (s2.trans s3)).trans s4) ⟨p, _, rfl, upd_same, ?_⟩
          rw [hled, if_neg c]
          exact prd_app (Paired.mapP hx1 fun _ _ z => z.up (TT.of ((s2.trans s3).trans s4))) (.cons ⟨t, pa, rfl, s4 _ _ ht3, s4 _ _ hp3⟩ .nil)
end
end K34

set_option maxHeartbeats 4000000
namespace K34
open PySem PySem.Spec PyProof.Rows L2 AT
/-- a cue of the law -/
def CuL (H : Hp) (v : V) (c : Cue) : Prop := ∃ t pr, v = .ref t ∧ H t = some (.tup [.str c.1, .str c.2.1, .str (uS c.2.2.1), .ref pr]) ∧ H pr = some (pairQ c.2.2.2)
theorem CuL.up {H H' : Hp} {v : V} {c : Cue} (h : CuL H v c) (s : TT H H') : CuL H' v c := by
  obtain ⟨t, pr, e, h1, h2⟩ := h
  exact ⟨t, pr, e, s _ _ h1, s _ _ h2⟩
def CsL (H : Hp) (D : Addr) (cs : List Cue) : Prop := ∃ xs, H D = some (.lst xs) ∧ Paired (CuL H) xs cs
theorem CsL.up {H H' : Hp} {D : Addr} {cs : List Cue} (h : CsL H D cs) (s : Same H H') : CsL H' D cs := by
  obtain ⟨xs, h1, h2⟩ := h
  exact ⟨xs, s _ _ h1, Paired.mapP h2 fun _ _ z => z.up (TT.of s)⟩
theorem KvR.upL {H H' : Hp} {kv : Key × V} {z : Str × Row} (h : KvR RwL H kv z) (s : TT H H') : KvR RwL H' kv z := ⟨h.1, h.2.up s⟩
section
variable {P : Program} {w : World} {K : PySem.W.Frag} {mg : Str → Option Value} {base : Heap}
theorem tt_d {l : Addr} {xs : List (Key × V)} {H H' : Hp} (m : Sm [l] H H') (hl : H l = some (.dK xs)) : TT H H' := m.tt fun a ha ys e => by
  rw [List.mem_singleton] at ha
  subst ha
  rw [hl] at e
  cases e
theorem tt_l {l : Addr} {xs : List V} {H H' : Hp} (m : Sm [l] H H') (hl : H l = some (.lst xs)) : TT H H' := m.tt fun a ha ys e => by
  rw [List.mem_singleton] at ha
  subst ha
  rw [hl] at e
  cases e
def spRows : Sp := fun vs H Q _ => ∃ D cs, vs = [.ref D] ∧ CsL H D cs ∧ CuesOk cs ∧ ∀ d kvs H', Same H H' → H d = none → H' d = some (.dK kvs) → Paired (KvR RwL H') kvs (PR.rowsF ("start" : Str) cs) → Q (.ref d) H'
theorem sc_w_rows : FnScope ["_law_cues_here", "_law_rows_here", "_law_name", "_law_parent", "_law_unit", "_law_amount_here"] ["_law_cues_here"] (defScope s_w_rows) := ⟨rfl, rfl, rfl, by decide +kernel, rfl, by decide +kernel, by decide +kernel⟩
theorem ok_w_rows (T : Tx K mg base) : Ok P w K mg base 4 (d_w_rows.loc K) ["_law_cues_here"] spRows := by
  refine mk_ok (k := 3) T.f_w_rows sc_w_rows (fun _ _ _ _ _ _ us hl => match us, hl with | [_], _ => rfl) (fun vs H Q E h => ?_) (fun cdv A outer s H vs Q E hr h => ?_)
  · obtain ⟨D, cs, rfl, _⟩ := h
    rfl
  · obtain ⟨D, cs, rfl, ⟨xs, hD, hx⟩, hok, k⟩ := h
    refine ⟨_, (pss_cons (ps_set (i := 1) sc_w_rows.nd rfl (Or.inl rfl) (pe_disp (pps_cons pe_str (pe_tup pa_nil) pps_nil) (by rfl) (by rfl) (fun z => by cases z) (by decide)))
      (pss_cons (ps_for (passes_of rfl) rfl (pi_list (pv 0)) (pg_tup rfl (pgs_cons (pg_name (i := 2) sc_w_rows.nd rfl (Or.inl rfl)) (pgs_cons (pg_name (i := 3) sc_w_rows.nd rfl (Or.inl rfl)) (pgs_cons (pg_name (i := 4) sc_w_rows.nd rfl (Or.inl rfl)) (pgs_cons (pg_name (i := 5) sc_w_rows.nd rfl (Or.inl rfl)) pgs_nil))))) (pss_one (ps_dput (by exact hu_of hr) (pv 1) (pv 2) (ok_call (ok_w_led T) (hr.mono (by decide)) rfl T.g_w_led passL (pa_cons (pe_dget (by exact hu_of hr) (pv 1) (pv 3) (fun _ _ => rfl)) (pa_cons (pv 4) (pa_cons (pv 5) pa_nil)))) rfl)))
      (pss_one (ps_ret (pv 1))))), ?_⟩
    have hxl := hx.length
    have hcl := hok.len
    refine fun d gd => ⟨Nat.zero_le _, fun t gt => ⟨?_, [(Sum.inr "start", .ref t)], rfl, (by show 1 ≤ 15; decide), ?_⟩⟩
    · rw [upd_ne (by rintro rfl; rw [upd_same] at gt; cases gt)]
      exact upd_same
    · have em : mergeK [] [((Sum.inr "start" : Key), V.ref t)] = ([(Sum.inr "start", V.ref t)] : List (Key × V)) := rfl
      rw [em]
      have ntd : t ≠ d := by rintro rfl; rw [upd_same] at gt; cases gt
      have gt2 : H t = none := by rw [upd_ne ntd] at gt; exact gt
      generalize hH1 : upd (upd (upd H d (.dK [])) t (.tup [])) d (.dK [(Sum.inr "start", .ref t)]) = H1
      have s1 : Same H H1 := by rw [← hH1]; exact AT.Same.new (AT.Same.new (AT.Same.up gd) gt2) gd
      have hd1 : H1 d = some (.dK [(Sum.inr "start", .ref t)]) := by rw [← hH1]; exact upd_same
      have ht1 : H1 t = some (.tup []) := by rw [← hH1, upd_ne ntd, upd_same]
      clear hH1
      have hD1 := s1 _ _ hD
      refine ⟨_, rfl, D, rfl, ⟨_, SqL.of hD1⟩, for_list (xs := xs) (fun i σ' H' => (∃ o2 o3 o4 o5, σ' = ([some (.ref D), some (.ref d), o2, o3, o4, o5] : L2.St)) ∧ Sm [d] H1 H' ∧ ∃ kvs, H' d = some (.dK kvs) ∧ Paired (KvR RwL H') kvs (PR.rowsF ("start" : Str) (cs.take i))) ⟨⟨_, _, _, _, rfl⟩, Sm.refl _ _, _, hd1, .cons ⟨rfl, .nil ht1⟩ .nil⟩ (fun i σ' H' _ hP => SqL.of (hP.2.1 _ _ (one_ne hd1 hD1 (fun z => nomatch z)) hD1)) (fun i x σ' H' hxi hP => ?_) (fun σ' H' hP => ?_)⟩
      · obtain ⟨⟨o2, o3, o4, o5, rfl⟩, m, kvs, hd, hp⟩ := hP
        obtain ⟨c, hc, hcu⟩ := prd_getL hx hxi
        have tt := (TT.of s1).trans (tt_d m hd1)
        obtain ⟨tc, pr, rfl, h1, h2⟩ := hcu.up tt
        obtain ⟨g1, g2⟩ := hok.good.at hc
        have hcm := List.mem_of_getElem? hc
        have hi : i < cs.length := (List.getElem?_eq_some_iff.mp hc).1
        have nmR : (PR.rowsF ("start" : Str) (cs.take i)).map (·.1) = ("start" : Str) :: (cs.take i).map (·.1) := PR.rowsF_names _ _
        obtain ⟨vp, e1, e2⟩ := kv_val hp (n := c.2.1) (by rw [nmR]; exact g2)
        have no1 : valV kvs (Sum.inr c.1) = none := by
          have z := kv_in (nm := (·.1)) (fun kv x q => q.1) hp c.1
          rw [nmR, decide_eq_false g1] at z
          cases e : valV kvs (Sum.inr c.1) with
          | none => rfl
          | some y => rw [e] at z; cases z
        have szt : ∀ y ∈ cs.take i, SzB 1 y.2.2.2 := fun y hy => hok.size y (List.mem_of_mem_take hy)
        have ltk : (cs.take i).length ≤ cs.length := by rw [List.length_take]; omega
        have wr := PR.rowOf_wt (PR.rowsF_wt szB ("start" : Str) (cs.take i) szt) c.2.1
        have rl := PR.rowOf_len (PR.rowsF_rlen ("start" : Str) (cs.take i)) c.2.1
        have hkl : kvs.length < sizeLine := by rw [hp.length, PR.rowsF_len, sizeLine_eq]; omega
        refine ⟨tc, _, rfl, SqT.of h1, rfl, _, _, rfl, _, _, rfl, _, _, rfl, _, _, rfl, rfl, ?_⟩
        refine ⟨_, rfl, _, rfl, d, vp, rfl, .inl ⟨kvs, Sum.inr c.2.1, .inl hd, rfl, e1.symm⟩, _, rfl, _, rfl, vp, c.2.2.1, _, _, c.2.2.2, rfl, e2, ⟨pr, rfl, h2⟩, PR.rowOf_red (PR.rowsF_red _ _) _, ⟨wt_bits wr (by omega), (hok.size c hcm).bits (by decide)⟩, (by omega), fun v2 H3 s3 hv2 => ?_⟩
        have hd3 := s3 _ _ hd
        refine ⟨_, rfl, _, rfl, d, _, rfl, DPut.k (k := Sum.inr c.1) hd3 hkl, ?_⟩
        rw [putK_new _ no1]
        have tu : TT H3 (upd H3 d (.dK (kvs ++ [(Sum.inr c.1, v2)]))) := TT.up hd3 (fun _ z => nomatch z)
        refine ⟨⟨_, _, _, _, rfl⟩, m.trans ((Sm.of s3).trans (Sm.up (by simp))), _, upd_same, ?_⟩
        rw [List.take_add_one, hc]
        show Paired _ _ (PR.rowsF ("start" : Str) (cs.take i ++ [c]))
        rw [PR.rowsF_snoc]
        exact prd_app (Paired.mapP hp fun _ _ z => z.upL ((TT.of s3).trans tu)) (.cons ⟨rfl, hv2.up tu⟩ .nil)
      · obtain ⟨⟨o2, o3, o4, o5, rfl⟩, m, kvs, hd, hp⟩ := hP
        rw [hxl, List.take_length] at hp
        refine ⟨_, rfl, k d kvs H' (fun b o e => ?_) gd hd hp⟩
        exact m _ _ (by rw [List.mem_singleton]; rintro rfl; rw [gd] at e; cases e) (s1 _ _ e)
theorem addTo_filter (f : List Row) (r : Row) : ∀ n, n ≤ r.length → PR.addTo f r n = f ++ ((List.range n).map fun j => r.take (j + 1)).filter fun x => decide (x ∉ f)
  | 0, _ => by simp [PR.addTo_zero]
  | n + 1, h => by
    have ih := addTo_filter f r n (by omega)
    rw [PR.addTo_succ, List.range_succ, List.map_append, List.filter_append, ← List.append_assoc, ← ih]
    have hx : r.take (n + 1) ∈ PR.addTo f r n ↔ r.take (n + 1) ∈ f := by
      rw [PR.mem_addTo]
      refine ⟨fun z => z.elim id fun ⟨i, hi, e⟩ => ?_, .inl⟩
      have := congrArg List.length e
      rw [List.length_take, List.length_take] at this
      omega
    unfold PR.addP
    by_cases c : r.take (n + 1) ∈ f
    · rw [if_pos (hx.mpr c)]
      simp [c]
    · rw [if_neg (fun z => c (hx.mp z))]
      simp [c]
def spMom : Sp := fun vs H Q _ => ∃ D cs, vs = [.ref D] ∧ CsL H D cs ∧ CuesOk cs ∧ ∀ F ms H', Same H H' → H F = none → H' F = some (.lst ms) → Paired (RwL H') ms (momS cs) → Q (.ref F) H'
theorem sc_w_moments : FnScope ["_law_cues_here", "_law_found", "_law_rows_here", "_law_cue", "_law_row", "_law_many"] ["_law_cues_here"] (defScope s_w_moments) := ⟨rfl, rfl, rfl, by decide +kernel, rfl, by decide +kernel, by decide +kernel⟩
theorem ok_w_moments (T : Tx K mg base) : Ok P w K mg base 5 (d_w_moments.loc K) ["_law_cues_here"] spMom := by
  refine mk_ok (k := 4) T.f_w_moments sc_w_moments (fun _ _ _ _ _ _ us hl => match us, hl with | [_], _ => rfl) (fun vs H Q E h => ?_) (fun cdv A outer s H vs Q E hr h => ?_)
  · obtain ⟨D, cs, rfl, _⟩ := h
    rfl
  · obtain ⟨D, cs, rfl, hcsl, hok, k⟩ := h
    refine ⟨_, (pss_cons (ps_asg (pe_tup (pa_cons (pe_lst (pa_cons (pe_tup pa_nil) pa_nil)) (pa_cons (ok_call (ok_w_rows T) (hr.mono (by decide)) rfl T.g_w_rows passL (pa_cons (pv 0) pa_nil)) pa_nil))) (pg_tup rfl (pgs_cons (pg_name (i := 1) sc_w_moments.nd rfl (Or.inr rfl)) (pgs_cons (pg_name (i := 2) sc_w_moments.nd rfl (Or.inl rfl)) pgs_nil))))
      (pss_cons (ps_for (passes_of rfl) rfl (pi_list (pv 0)) (pg_name (i := 3) sc_w_moments.nd rfl (Or.inl rfl)) (pss_cons (ps_set (i := 4) sc_w_moments.nd rfl (Or.inr rfl) (pe_dget (by exact hu_of hr) (pv 2) (pe_ix ix_tup (pv 3) pe_int (fun _ _ => rfl)) (fun _ _ => rfl)))
      (pss_one (ps_set (i := 1) sc_w_moments.nd rfl (Or.inr rfl) (pe_op op_cat (pv 1) (pe_lc (own := [("_law_many", 5)]) (g := (gName 5)) (by rfl) sc_w_moments.nd (pi_range2 (by rfl) T.b_range (pa_cons pe_int (pa_cons (pe_op op_add (pe_callB call_len_seq (by rfl) T.b_len (by decide +kernel) (pa_cons (pv 4) pa_nil)) pe_int) pa_nil))) (blkOk_by (own := [("_law_many", 5)]) (N := ["_law_cues_here", "_law_found", "_law_rows_here", "_law_cue", "_law_row", "_law_many"]) (sc := defScope s_w_moments) (by decide +kernel)) (fun _ _ _ _ _ => (pg_name (i := 5) sc_w_moments.nd rfl (Or.inl rfl))) (fun _ _ _ _ _ => (pts_one (pt_cmpR (show OpR _ _ (rNotInD K) from op_notInD (room65 hr)) (pe_slice (show SlR _ (rSlA K) from sl_tupA) (pv 4) po_none (po_some (pv 5))) (pv 1) (by rfl)))) (fun _ _ _ _ _ => (pe_slice (show SlR _ (rSlA K) from sl_tupA) (pv 4) po_none (po_some (pv 5))))))))))
      (pss_one (ps_ret (pv 1))))), ?_⟩
    have hcl := hok.len
    refine ⟨Nat.zero_le _, fun t gt => ⟨(by show 1 ≤ sizeLine; decide), fun F gF => ?_⟩⟩
    generalize hH1 : upd (upd H t (.tup [])) F (.lst [.ref t]) = H1
    have ntf : t ≠ F := by rintro rfl; rw [upd_same] at gF; cases gF
    have gF0 : H F = none := none_of (AT.Same.up gt) gF
    have s1 : Same H H1 := by rw [← hH1]; exact (AT.Same.up gt).trans (AT.Same.up gF)
    have hF1 : H1 F = some (.lst [.ref t]) := by rw [← hH1]; exact upd_same
    have ht1 : H1 t = some (.tup []) := by rw [← hH1, upd_ne ntf, upd_same]
    clear hH1
    refine ⟨_, rfl, D, cs, rfl, hcsl.up s1, hok, fun d kr H2 s2 gd hd2 pr2 => ⟨(by show 2 ≤ sizeLine; decide), fun tp gtp => ⟨tp, _, rfl, SqT.of upd_same, rfl, _, _, rfl, _, _, rfl, rfl, ?_⟩⟩⟩
    have s3 := AT.Same.up (o := .tup [.ref F, .ref d]) gtp
    have s13 := s1.trans (s2.trans s3)
    have hF3 := (s2.trans s3) _ _ hF1
    have ht3 := (s2.trans s3) _ _ ht1
    have hd3 := s3 _ _ hd2
    have pr3 : Paired (KvR RwL (upd H2 tp (.tup [.ref F, .ref d]))) kr (PR.rowsF ("start" : Str) cs) := Paired.mapP pr2 fun _ _ z => z.upL (TT.of s3)
    obtain ⟨xs, hD3, hx⟩ := hcsl.up s13
    generalize upd H2 tp (.tup [.ref F, .ref d]) = H3 at s13 hF3 ht3 hd3 pr3 hD3 hx ⊢
    clear s1 s2 s3 hF1 ht1 hd2 pr2 gtp gF
    have hxl := hx.length
    refine ⟨_, rfl, D, rfl, ⟨_, SqL.of hD3⟩, ?_⟩
    refine for_list (xs := xs) (fun i σ' H' => ∃ F, (∃ o3 o4 o5, σ' = ([some (.ref D), some (.ref F), some (.ref d), o3, o4, o5] : L2.St)) ∧ Same H3 H' ∧ H F = none ∧ ∃ ms, H' F = some (.lst ms) ∧ Paired (RwL H') ms (PR.momF ((PR.cueRows ("start" : Str) cs).take i))) ⟨F, ⟨_, _, _, rfl⟩, Same.refl _, gF0, _, hF3, .cons (.nil ht3) .nil⟩ (fun i σ' H' _ hP => ?_) (fun i x σ' H' hxi hP => ?_) (fun σ' H' hP => ?_)
    · obtain ⟨_, _, sm, _⟩ := hP
      exact SqL.of (sm _ _ hD3)
    · obtain ⟨F, ⟨o3, o4, o5, rfl⟩, sm, gF0, ms, hms, pms⟩ := hP
      obtain ⟨c, hc, hcu⟩ := prd_getL hx hxi
      obtain ⟨tc, pp, rfl, h1, _⟩ := hcu.up (TT.of sm)
      have pr' : Paired (KvR RwL H') kr (PR.rowsF ("start" : Str) cs) := Paired.mapP pr3 fun _ _ z => z.upL (TT.of sm)
      have hd' := sm _ _ hd3
      obtain ⟨vr, e1, e2⟩ := kv_val pr' (n := c.1) (by rw [PR.rowsF_names]; exact PR.Good.mem (List.mem_of_getElem? hc))
      refine ⟨_, rfl, _, rfl, tc, _, 0, _, rfl, rfl, SqT.of h1, rfl, d, vr, rfl, .inl ⟨kr, Sum.inr c.1, .inl hd', rfl, e1.symm⟩, ?_⟩
      have hrow := PR.cue_row_at hok.good hc
      have hrl := PR.rowOf_len (PR.rowsF_rlen ("start" : Str) cs) c.1
      generalize PR.rowOf (PR.rowsF ("start" : Str) cs) c.1 = r at e2 hrow hrl
      obtain ⟨ra, rxs, rfl, hra, hrx⟩ := id e2
      have hrxl := hrx.length
      have hml := pms.length
      have bd : ms.length + r.length < sizeLine := by
        have l3 := PR.momF_len (k := cs.length) ((PR.cueRows ("start" : Str) cs).take i) fun r hr => PR.cueRows_rlen _ _ r (List.mem_of_mem_take hr)
        have l4 : ((PR.cueRows ("start" : Str) cs).take i).length * cs.length ≤ 30 * 30 := Nat.mul_le_mul (by rw [List.length_take, PR.cueRows_len]; omega) (by omega)
        rw [sizeLine_eq]
        omega
      refine ⟨_, rfl, _, rfl, ra, _, rfl, .inr (SqT.of hra), _, _, rfl, rfl, 1, _, rfl, ⟨by decide, by decide, by omega, by omega⟩, fun L gL => ?_⟩
      have en : ((rxs.length : Int) + 1 - 1).toNat = r.length := by omega
      rw [en]
      refine lc_it (walk_range (lo := 1) (n := r.length)) (fun j Hj => Same H' Hj ∧ ∃ ys, Hj L = some (.lst ys) ∧ Paired (RwL Hj) ys (((List.range j).map fun j => r.take (j + 1)).filter fun x => decide (x ∉ PR.momF ((PR.cueRows ("start" : Str) cs).take i)))) ⟨AT.Same.up gL, [], upd_same, .nil⟩ (fun _ _ _ _ => trivial) (fun j x Hj H4 hj hP hY => ?_) (fun Hj hP => ?_)
      · obtain ⟨sj, ys, hys, hyp⟩ := hP
        obtain ⟨rfl, hxx⟩ := hY
        have ej : (1 : Int) + (j : Nat) = ((j + 1 : Nat) : Int) := by omega
        dsimp only at hxx
        rw [ej] at hxx
        subst hxx
        have hr' := e2.up (TT.of sj)
        obtain ⟨ra', rxs', era, hra', hrx'⟩ := id hr'
        cases era
        have pmsj : Paired (RwL H4) ms _ := Paired.mapP pms fun _ _ z => z.up (TT.of sj)
        have hyl := hyp.length
        have hyl2 : ys.length ≤ j := by
          rw [hyl]
          refine Nat.le_trans (List.length_filter_le _ _) ?_
          rw [List.length_map, List.length_range]
          exact Nat.le_refl _
        refine ⟨rfl, _, rfl, _, rfl, _, rfl, sl_rowL hra' hrx' fun v4 H5 s4 hv4 => ?_⟩
        have hms4 := s4 _ _ (sj _ _ hms)
        have pms4 : Paired (RwL H5) ms _ := Paired.mapP pmsj fun _ _ z => z.up (TT.of s4)
        refine ⟨_, rfl, _, _, hv4.dp, .lst (SqL.of hms4) (dpall (fun _ _ z => z.dp) pms4), rowDL_shaped _, rowsDL_shaped _, _, rfl, ?_⟩
        by_cases cc : r.take (j + 1) ∈ PR.momF ((PR.cueRows ("start" : Str) cs).take i)
        · rw [any_yes rowDL_eqv cc]
          refine iteF ⟨sj.trans s4, ys, s4 _ _ hys, ?_⟩
          rw [List.range_succ, List.map_append, List.filter_append, List.map_singleton, List.filter_cons_of_neg (by simpa using cc), List.filter_nil, List.append_nil]
          exact Paired.mapP hyp fun _ _ z => z.up (TT.of s4)
        · rw [any_no rowDL_eqv cc]
          have hr4 := hr'.up (TT.of s4)
          obtain ⟨ra5, rxs5, era5, hra5, hrx5⟩ := id hr4
          cases era5
          refine iteT ⟨_, rfl, _, rfl, _, rfl, sl_rowL hra5 hrx5 fun v6 H7 s7 hv6 => ?_⟩
          have hys7 := s7 _ _ (s4 _ _ hys)
          refine ⟨ys, hys7, (by omega), AT.Same.new (sj.trans (s4.trans s7)) gL, ys ++ [v6], upd_same, ?_⟩
          have tu : TT H7 (upd H7 L (.lst (ys ++ [v6]))) := TT.up hys7 (fun _ z => nomatch z)
          rw [List.range_succ, List.map_append, List.filter_append, List.map_singleton, List.filter_cons_of_pos (by simpa using cc), List.filter_nil]
          exact prd_app (Paired.mapP hyp fun _ _ z => z.up ((TT.of (s4.trans s7)).trans tu)) (.cons (hv6.up tu) .nil)
      · obtain ⟨sj, ys, hys, hyp⟩ := hP
        have hyl := hyp.length
        have hyl2 : ys.length ≤ r.length := by
          rw [hyl]
          refine Nat.le_trans (List.length_filter_le _ _) ?_
          rw [List.length_map, List.length_range]
          exact Nat.le_refl _
        refine ⟨F, L, _, _, rfl, rfl, sj _ _ hms, hys, (by omega), fun G gG => ?_⟩
        have sG := AT.Same.up (o := .lst (ms ++ ys)) gG
        refine ⟨G, ⟨_, _, _, rfl⟩, sm.trans (sj.trans sG), none_of s13 (none_of sm (none_of sj gG)), _, upd_same, ?_⟩
        rw [List.take_add_one, hrow]
        show Paired _ _ (PR.momF ((PR.cueRows ("start" : Str) cs).take i ++ [r]))
        rw [PR.momF_snoc]
        unfold PR.addRow
        rw [addTo_filter _ _ _ (Nat.le_refl _)]
        exact prd_app (Paired.mapP pms fun _ _ z => z.up ((TT.of sj).trans (TT.of sG))) (Paired.mapP hyp fun _ _ z => z.up (TT.of sG))
    · obtain ⟨F, ⟨o3, o4, o5, rfl⟩, sm, gF0, ms, hms, pms⟩ := hP
      rw [hxl, ← PR.cueRows_len ("start" : Str), List.take_length] at pms
      exact ⟨_, rfl, k F ms H' (s13.trans sm) gF0 hms pms⟩
end
end K34

set_option maxHeartbeats 4000000
namespace K34
open PySem PySem.Spec PyProof.Rows L2 AT
section
variable {P : Program} {w : World} {K : PySem.W.Frag} {mg : Str → Option Value} {base : Heap}
theorem CsL.upX {H H' : Hp} {D p : Addr} {n : Nat} {cs : List Cue} (h : CsL H D cs) (hb : BoxAt H p n) (s : SameX p H H') (hd : D ≠ p) : CsL H' D cs := by
  obtain ⟨xs, h1, h2⟩ := h
  exact ⟨xs, s _ _ hd h1, Paired.mapP h2 fun _ _ z => z.up (SameX.tt hb s)⟩
theorem big1 {x : Int} (h : x.natAbs ≤ 1000000000000000000000000000000) : x.natAbs < 2 ^ 1000 := Nat.lt_of_le_of_lt h (by decide +kernel)
theorem PQ.upX {H H' : Hp} {v : V} {q : Rat} {p : Addr} {n : Nat} (h : PQ H v q) (b : BoxAt H p n) (s : SameX p H H') : PQ H' v q := h.tt (SameX.tt b s)
theorem two_at {r : Int} {x y : V} (h0 : 0 ≤ r) (h1 : r < 2) : ∃ v, atI [x, y] r = some v ∧ (v = x ∨ v = y) := by
  obtain rfl | rfl : r = 0 ∨ r = 1 := by omega
  · exact ⟨_, rfl, .inl rfl⟩
  · exact ⟨_, rfl, .inr rfl⟩
/-- the names that are drawn -/
def nmL (st k : Nat) : List Nat := if st = 0 then List.replicate (k + 1) 99 else if st = 1 then [120, 49] ++ dk k else [98, 101, 97, 116, 115] ++ dk k
def nmT (st k : Nat) : Str := SX.S (nmL st k)
theorem nm_facts : ∀ st, st < 3 → ∀ k, k < 8 → isNameS (nmT st k) = true ∧ nmT st k ≠ "start" ∧ ldOk (nmT st k).cps.toList = true := by decide +kernel
theorem nm_inj : ∀ st, st < 3 → ∀ i, i < 8 → ∀ j, j < 8 → nmT st i = nmT st j → i = j := by decide +kernel
theorem nm_c : ∀ k : Nat, k < 8 → Txt.mul "c" ((k : Int) + 1) = nmT 0 k := by decide +kernel
theorem nm_x : ∀ k : Nat, k < 8 → ("x1" : Str) ++ (toString (k : Int) : String) = nmT 1 k := by decide +kernel
theorem nm_b : ∀ k : Nat, k < 8 → ("beats" : Str) ++ (toString (k : Int) : String) = nmT 2 k := by decide +kernel
theorem mul_c {k : Nat} (h : k < 8) : MulOk "c" ((k : Int) + 1) := by
  have e : Str.length "c" = 1 := rfl
  have h3 : Builtin.Str.tooLong (1 * ((k : Int) + 1).toNat) = false := by
    have z : ∀ k : Nat, k < 8 → Builtin.Str.tooLong (1 * ((k : Int) + 1).toNat) = false := by decide +kernel
    exact z k h
  have h2 : ¬ (((1 : Nat) : Int) > (2 ^ 63 - 1) / ((k : Int) + 1)) := by
    have z : ∀ k : Nat, k < 8 → ¬ (((1 : Nat) : Int) > (2 ^ 63 - 1) / ((k : Int) + 1)) := by decide +kernel
    exact z k h
  unfold MulOk
  rw [e]
  refine ⟨?_, fun _ _ => h2, fun _ _ => h3⟩
  rw [decide_eq_false (by omega), decide_eq_false (by omega)]
  rfl
theorem stem_at {r : Int} (h0 : 0 ≤ r) (h1 : r < 3) : ∃ st : Nat, st < 3 ∧ ∃ z : Str, atI [V.str "c", V.str "x1", V.str "beats"] r = some (.str z) ∧ ((st = 0 ∧ z = "c") ∨ (st = 1 ∧ z = "x1") ∨ (st = 2 ∧ z = "beats")) := by
  obtain rfl | rfl | rfl : r = 0 ∨ r = 1 ∨ r = 2 := by omega
  · exact ⟨0, by decide, _, rfl, .inl ⟨rfl, rfl⟩⟩
  · exact ⟨1, by decide, _, rfl, .inr (.inl ⟨rfl, rfl⟩)⟩
  · exact ⟨2, by decide, _, rfl, .inr (.inr ⟨rfl, rfl⟩)⟩
theorem b10_neg {q : Rat} (h : SmQ q) : SmQ (-q) := by
  obtain ⟨h, d⟩ := h
  refine ⟨?_, by rw [Rat.neg_den]; exact d⟩
  unfold Bits at h ⊢
  rw [Rat.neg_num, Rat.neg_den, Int.natAbs_neg]
  exact h
/-- cues as they are drawn: small amounts, names of one of the three forms -/
structure DrOk (cs : List Cue) : Prop where
  b10 : ∀ c ∈ cs, SmQ c.2.2.2
  ld : LdOk cs
  nm : ∃ st, st < 3 ∧ ∀ c ∈ cs, ∃ k, k < 7 ∧ c.1 = nmT st k
def spCues : Sp := fun vs H Q _ => ∃ (p : Addr) (n L M : Nat), vs = [.ref p, .int L, .int M] ∧ BoxAt H p n ∧ n ≤ 1000 ∧ M < 8 ∧ 1 ≤ L ∧ ∀ D cs H', SameX p H H' → BoxAt H' p (n + 200) → D ≠ p → CsL H' D cs → CuesOk cs → (momS cs).length ≤ L → cs.length ≤ M → DrOk cs → H D = none → Q (.ref D) H'
theorem sc_w_cues : FnScope ["_law_box_here", "_law_limit", "_law_most_cues", "_law_cues_here", "_law_stem", "_law_k", "_law_cue", "_law_names", "_law_parent", "_law_unit", "_law_amount_here", "_law_other", "_law_name", "_law_more"] ["_law_box_here", "_law_limit", "_law_most_cues"] (defScope s_w_cues) := ⟨rfl, rfl, rfl, by decide +kernel, rfl, by decide +kernel, by decide +kernel⟩
theorem ok_w_cues (T : Tx K mg base) : Ok P w K mg base 6 (d_w_cues.loc K) ["_law_box_here", "_law_limit", "_law_most_cues"] spCues := by
  refine mk_ok (k := 5) T.f_w_cues sc_w_cues (fun _ _ _ _ _ _ us hl => match us, hl with | [_, _, _], _ => rfl) (fun vs H Q E h => ?_) (fun cdv A outer s H vs Q E hr h => ?_)
  · obtain ⟨p, n, L, M, rfl, _⟩ := h
    rfl
  · obtain ⟨p, n, L, M, rfl, hb, hn, hM, hL, k⟩ := h
    refine ⟨_, (pss_cons (ps_par (by rfl) sc_w_cues.nd (i := 3) (j := 4) rfl rfl (by decide) rfl rfl (pa_cons (pe_lst pa_nil) (pa_cons (pe_ix ix_list (pe_lst (pa_cons pe_str (pa_cons pe_str (pa_cons pe_str pa_nil)))) (ok_call (ok_w_take T) (hr.mono (by decide)) rfl T.g_w_take passL (pa_cons (pv 0) (pa_cons pe_int pa_nil))) (fun _ _ => rfl)) pa_nil)) (by rfl))
      (pss_cons (ps_for (passes_of rfl) rfl (pi_range1 (by rfl) T.b_range (pa_cons (ok_call (ok_w_take T) (hr.mono (by decide)) rfl T.g_w_take passL (pa_cons (pv 0) (pa_cons (pe_op op_add (pv 2) pe_int) pa_nil))) pa_nil)) (pg_name (i := 5) sc_w_cues.nd rfl (Or.inl rfl)) (pss_cons (ps_set (i := 7) sc_w_cues.nd rfl (Or.inl rfl) (pe_op op_cat (pe_lst (pa_cons pe_str pa_nil)) (pe_lc (own := [("_law_cue", 6)]) (g := (gName 6)) (tt := tYes) (by rfl) sc_w_cues.nd (pi_list (pv 3)) (blkOk_by (own := [("_law_cue", 6)]) (N := ["_law_box_here", "_law_limit", "_law_most_cues", "_law_cues_here", "_law_stem", "_law_k", "_law_cue", "_law_names", "_law_parent", "_law_unit", "_law_amount_here", "_law_other", "_law_name", "_law_more"]) (sc := defScope s_w_cues) (by decide +kernel)) (fun _ _ _ _ _ => (pg_name (i := 6) sc_w_cues.nd rfl (Or.inl rfl))) (fun _ _ _ _ _ => pts_nil) (fun _ _ _ _ _ => (pe_ix (show IxR _ (rIxT K) from ix_tup) (pv 6) pe_int (fun _ _ => rfl))))))
      (Evl.pss_cut (ps_set (i := 8) sc_w_cues.nd rfl (Or.inl rfl) (pe_ix ix_list (pe_lst (pa_cons (pe_ix ix_list (pv 7) (ok_call (ok_w_take T) (hr.mono (by decide)) rfl T.g_w_take passL (pa_cons (pv 0) (pa_cons (pe_callB call_len_seq (by rfl) T.b_len (by decide +kernel) (pa_cons (pv 7) pa_nil)) pa_nil))) (fun _ _ => rfl)) (pa_cons (pe_ix ix_list (pv 7) (pe_un un_neg pe_int) (fun _ _ => rfl)) pa_nil))) (ok_call (ok_w_take T) (hr.mono (by decide)) rfl T.g_w_take passL (pa_cons (pv 0) (pa_cons pe_int pa_nil))) (fun _ _ => rfl)))
      (pss_cons (ps_par (by rfl) sc_w_cues.nd (i := 9) (j := 10) rfl rfl (by decide) rfl rfl (pa_cons (pe_ix ix_list (pe_lst (pa_cons pe_str (pa_cons pe_str pa_nil))) (ok_call (ok_w_take T) (hr.mono (by decide)) rfl T.g_w_take passL (pa_cons (pv 0) (pa_cons pe_int pa_nil))) (fun _ _ => rfl)) (pa_cons (ok_call (ok_w_amount T) (hr.mono (by decide)) rfl T.g_w_amount passL (pa_cons (pv 0) pa_nil)) pa_nil)) (by rfl))
      (Evl.pss_cut (ps_if (PW.pt (pw_and (pt_cmpR (show OpR _ _ (rNeE K) from op_neE hr.units) (pv 3) (pe_lst pa_nil) (nomark _)) (pw_and1 (pt_cmpR op_eq (ok_call (ok_w_take T) (hr.mono (by decide)) rfl T.g_w_take passL (pa_cons (pv 0) (pa_cons pe_int pa_nil))) pe_int (nomark _))))) (pss_cons (ps_set (i := 11) sc_w_cues.nd rfl (Or.inl rfl) (pe_ix ix_list (pv 3) (ok_call (ok_w_take T) (hr.mono (by decide)) rfl T.g_w_take passL (pa_cons (pv 0) (pa_cons (pe_callB call_len_seq (by rfl) T.b_len (by decide +kernel) (pa_cons (pv 3) pa_nil)) pa_nil))) (fun _ _ => rfl)))
      (pss_one (ps_par (by rfl) sc_w_cues.nd (i := 9) (j := 10) rfl rfl (by decide) rfl rfl (pa_cons (pe_ix ix_tup (pv 11) pe_int (fun _ _ => rfl)) (pa_cons (pe_ix ix_list (pe_lst (pa_cons (pe_tup (pa_cons (pe_op op_sub pe_int (pe_ix ix_tup (pe_ix ix_tup (pv 11) pe_int (fun _ _ => rfl)) pe_int (fun _ _ => rfl))) (pa_cons (pe_ix ix_tup (pe_ix ix_tup (pv 11) pe_int (fun _ _ => rfl)) pe_int (fun _ _ => rfl)) pa_nil))) (pa_cons (pe_ix ix_tup (pv 11) pe_int (fun _ _ => rfl)) pa_nil))) (ok_call (ok_w_take T) (hr.mono (by decide)) rfl T.g_w_take passL (pa_cons (pv 0) (pa_cons pe_int pa_nil))) (fun _ _ => rfl)) pa_nil)) (by rfl)))) pss_nil)
      (Evl.pss_cut (ps_set (i := 12) sc_w_cues.nd rfl (Or.inl rfl) (pe_ifExp (pt_cmpR op_eq (pv 4) pe_str (nomark _)) (pe_op op_mulS pe_str (pe_op op_add (pv 5) pe_int)) (pe_op op_add_str (pv 4) (pe_callTy call_str_int (by rfl) T.b_str (by decide +kernel) (pa_cons (pv 5) pa_nil)))))
      (pss_cons (ps_set (i := 13) sc_w_cues.nd rfl (Or.inl rfl) (pe_op op_cat (pv 3) (pe_lst (pa_cons (pe_tup (pa_cons (pv 12) (pa_cons (pv 8) (pa_cons (pv 9) (pa_cons (pv 10) pa_nil))))) pa_nil))))
      (pss_one (ps_set (i := 3) sc_w_cues.nd rfl (Or.inl rfl) (pe_ifExp (pt_cmpR op_le (pe_callB call_len_seq (by rfl) T.b_len (by decide +kernel) (pa_cons (ok_call (ok_w_moments T) (hr.mono (by decide)) rfl T.g_w_moments passL (pa_cons (pv 13) pa_nil)) pa_nil)) (pv 1) (nomark _)) (pv 13) (pv 3)))))))))))
      (pss_one (ps_ret (pv 3))))), ?_⟩
    have hsz : sizeLine = 16777216 := sizeLine_eq
    refine ⟨Nat.zero_le _, fun D0 gD0 => ⟨(by show 3 ≤ sizeLine; decide), fun S0 gS0 => ?_⟩⟩
    have sD := AT.Same.up (o := .lst []) gD0
    have sS := AT.Same.up (o := .lst [.str "c", .str "x1", .str "beats"]) gS0
    have nD0 : D0 ≠ p := box_ne2 hb gD0
    have nS0 : S0 ≠ p := box_ne2 (hb.up sD) gS0
    have hD0 := sS _ _ (upd_same (H := H) (a := D0) (o := .lst []))
    have hS0 : upd (upd H D0 (.lst [])) S0 (.lst [.str "c", .str "x1", .str "beats"]) S0 = some (.lst [.str "c", .str "x1", .str "beats"]) := upd_same
    have b0 := hb.up (sD.trans sS)
    have x0 : SameX p H _ := sameX_of (sD.trans sS)
    generalize upd (upd H D0 (.lst [])) S0 (.lst [.str "c", .str "x1", .str "beats"]) = H0 at hD0 hS0 b0 x0 ⊢
    refine ⟨_, rfl, p, _, _, rfl, b0, (by omega), (by decide), (by decide +kernel), fun r1 H1 a1 a1' x1 b1 => ?_⟩
    obtain ⟨st, hst, zs, hzs, hstz⟩ := stem_at a1 a1'
    refine ⟨S0, _, _, _, rfl, rfl, SqL.of (x1 _ _ nS0 hS0), hzs, _, _, rfl, ?_⟩
    have hD01 := x1 _ _ nD0 hD0
    refine ⟨_, rfl, _, rfl, _, _, rfl, rfl, p, _, _, rfl, b1, (by omega), (by omega), big1 (by omega), fun cut H4 c1 c2 x4 b4 => ?_⟩
    have hD04 := x4 _ _ nD0 hD01
    obtain ⟨cn, rfl⟩ := Int.eq_ofNat_of_zero_le c1
    have x04 := x0.trans (x1.trans x4)
    refine ⟨_, rfl, (by omega), (by omega), ?_⟩
    rw [Int.toNat_natCast]
    refine for_range (lo := 0) (n := cn) (fun i σ' H' => ∃ D cs, (∃ o5 o7 o8 o9 o10 o11 o12 o13, σ' = ([some (.ref p), some (.int L), some (.int M), some (.ref D), some (.str zs), o5, none, o7, o8, o9, o10, o11, o12, o13] : L2.St)) ∧ SameX p H4 H' ∧ BoxAt H' p (n + 10 + 20 * i) ∧ D ≠ p ∧ H D = none ∧ CsL H' D cs ∧ CuesOk cs ∧ (momS cs).length ≤ L ∧ cs.length ≤ i ∧ (∀ c ∈ cs, SmQ c.2.2.2) ∧ ∀ c ∈ cs, ∃ j, j < i ∧ c.1 = nmT st j) ⟨D0, [], ⟨_, _, _, _, _, _, _, _, rfl⟩, SameX.refl _ _, b4.mono (by omega), nD0, gD0, ⟨[], hD04, .nil⟩, ⟨.nil, by simp, by simp, by simp⟩, hL, Nat.zero_le _, by simp, by simp⟩ (fun i σ' H' hi hP => ?_) (fun σ' H' hP => ?_)
    · obtain ⟨D, cs, ⟨o5, o7, o8, o9, o10, o11, o12, o13, rfl⟩, xj, bj, nD, gD, hcs, hok, hmom, hcl, hb10, hnm⟩ := hP
      rw [Int.zero_add]
      have hi8 : i < 8 := by omega
      obtain ⟨nmok, nmst, nmld⟩ := nm_facts st hst i hi8
      have fresh : nmT st i ∉ cs.map (·.1) := fun hin => by
        obtain ⟨c, hc, e⟩ := List.mem_map.mp hin
        obtain ⟨j, hj, e2⟩ := hnm c hc
        have := nm_inj st hst j (by omega) i hi8 (e2.symm.trans e)
        omega
      obtain ⟨xs, hD, hx⟩ := id hcs
      have hxl := hx.length
      refine ⟨(by show 1 ≤ sizeLine; decide), fun q gq => ?_⟩
      have s5 := AT.Same.up (o := .lst [.str "start"]) gq
      have hq5 : upd H' q (.lst [.str "start"]) q = some (.lst [.str "start"]) := upd_same
      generalize upd H' q (.lst [.str "start"]) = H5 at s5 hq5 ⊢
      have hD5 := s5 _ _ hD
      refine ⟨_, rfl, D, rfl, ⟨_, SqL.of hD5⟩, fun C gC => ?_⟩
      refine lc_list (K := K) (a := D) (xs := xs) (fun m Hj => Same H5 Hj ∧ Hj C = some (.lst ((cs.take m).map fun c => V.str c.1))) ⟨AT.Same.up gC, upd_same⟩ (fun m Hj _ h => SqL.of (h.1 _ _ hD5)) (fun m z Hj hz hP => ?_) (fun Hj hP => ?_)
      · obtain ⟨sj, hC⟩ := hP
        obtain ⟨c, hc, t, pr, rfl, ht, _⟩ := prd_getL hx hz
        have hm : m < xs.length := (List.getElem?_eq_some_iff.mp hz).1
        have htj := (s5.trans sj) _ _ ht
        refine ⟨rfl, ?_⟩
        dsimp only [tYes]
        refine iteT ⟨_, rfl, t, _, 0, _, rfl, rfl, SqT.of htj, rfl, _, hC, ?_, AT.Same.new sj gC, ?_⟩
        · rw [List.length_map, List.length_take]; omega
        · rw [List.take_add_one, hc, Option.toList_some, List.map_append, upd_same]
          rfl
      · obtain ⟨s6, hC⟩ := hP
        rw [hxl, List.take_length] at hC
        refine ⟨q, C, _, _, rfl, rfl, s6 _ _ hq5, hC, (by rw [List.length_map, List.length_singleton]; omega), fun E1 gE => ?_⟩
        have s7 := AT.Same.up (o := .lst ([.str "start"] ++ cs.map fun c => V.str c.1)) gE
        have hE : upd Hj E1 (.lst ([.str "start"] ++ cs.map fun c => V.str c.1)) E1 = some (.lst ((("start" : Str) :: cs.map (·.1)).map V.str)) := by
          rw [upd_same, List.map_cons, List.map_map]
          rfl
        have s57 := s5.trans (s6.trans s7)
        generalize upd Hj E1 (.lst ([.str "start"] ++ cs.map fun c => V.str c.1)) = H7 at s7 hE s57 ⊢
        have b7 := bj.up s57
        have x7 : SameX p H4 H7 := xj.trans (sameX_of s57)
        have nE : E1 ≠ p := box_ne2 (bj.up (s5.trans s6)) gE
        have hcs7 := hcs.up s57
        have hkl : (("start" : Str) :: cs.map (·.1)).length = cs.length + 1 := by rw [List.length_cons, List.length_map]
        refine ⟨fun σ' H' => ∃ par, σ' = ([some (.ref p), some (.int L), some (.int M), some (.ref D), some (.str zs), some (.int (i : Nat)), none, some (.ref E1), some (.str par), o9, o10, o11, o12, o13] : L2.St) ∧ par ∈ ("start" : Str) :: cs.map (·.1) ∧ SameX p H4 H' ∧ BoxAt H' p (n + 12 + 20 * i) ∧ CsL H' D cs, ?_, ?_⟩
        · generalize hkk : ("start" : Str) :: cs.map (·.1) = kl at hE hkl
          refine ⟨_, rfl, _, rfl, _, rfl, E1, _, rfl, .inl (SqL.of hE), p, _, _, rfl, b7, (by omega), (by rw [List.length_map, hkl]; omega), big1 (by rw [List.length_map, hkl]; omega), fun r8 H8 a8 a8' x8 b8 => ?_⟩
          have hE8 := x8 _ _ nE hE
          obtain ⟨rn, rfl⟩ := Int.eq_ofNat_of_zero_le a8
          have hrn : rn < kl.length := by rw [List.length_map] at a8'; omega
          have hat1 : (kl.map V.str)[rn]? = some (.str kl[rn]) := by rw [List.getElem?_map, List.getElem?_eq_getElem hrn]; rfl
          have hkne : kl ≠ [] := by rintro rfl; simp at hrn
          have hat2 : (kl.map V.str).getLast? = some (.str (kl.getLast hkne)) := by rw [List.getLast?_map, List.getLast?_eq_some_getLast hkne]; rfl
          refine ⟨E1, _, _, _, rfl, rfl, SqL.of hE8, atI_nat hat1, _, rfl, _, rfl, E1, _, -1, _, rfl, rfl, SqL.of hE8, last_at hat2, (by show 2 ≤ sizeLine; decide), fun L2 gL2 => ?_⟩
          have s9 := AT.Same.up (o := .lst [.str kl[rn], .str (kl.getLast hkne)]) gL2
          refine ⟨_, rfl, p, _, _, rfl, b8.up s9, (by omega), (by decide), (by decide +kernel), fun r10 H10 a10 a10' x10 b10 => ?_⟩
          obtain ⟨vp, hvp, hvp2⟩ := two_at (x := .str kl[rn]) (y := .str (kl.getLast hkne)) a10 a10'
          have hL10 := x10 _ _ (box_ne2 b8 gL2) upd_same
          refine ⟨L2, _, _, _, rfl, rfl, SqL.of hL10, hvp, ?_⟩
          have hcs10 := ((hcs7.upX b7 x8 nD).up s9).upX (b8.up s9) x10 nD
          have x710 := x7.trans ((x8.trans (sameX_of s9)).trans x10)
          rcases hvp2 with rfl | rfl
          · exact ⟨_, rfl, List.getElem_mem hrn, x710, b10.mono (by omega), hcs10⟩
          · exact ⟨_, rfl, List.getLast_mem hkne, x710, b10.mono (by omega), hcs10⟩
        · rintro σ' H8 ⟨par, rfl, hpar, x8, b8, hcs8⟩
          refine ⟨(by show 2 ≤ sizeLine; decide), fun U1 gU => ?_⟩
          have s9 := AT.Same.up (o := .lst [.str "beats", .str "seconds"]) gU
          refine ⟨_, rfl, p, _, _, rfl, b8.up s9, (by omega), (by decide), (by decide +kernel), fun r10 H10 a10 a10' x10 b10 => ?_⟩
          obtain ⟨vu, hvu, hvu2⟩ := two_at (x := .str "beats") (y := .str "seconds") a10 a10'
          have hU10 := x10 _ _ (box_ne2 b8 gU) upd_same
          obtain ⟨u, rfl⟩ : ∃ u, vu = .str (uS u) := by
            rcases hvu2 with rfl | rfl
            · exact ⟨true, rfl⟩
            · exact ⟨false, rfl⟩
          have hcs10 := (hcs8.up s9).upX (b8.up s9) x10 nD
          have x810 := x8.trans ((sameX_of s9).trans x10)
          refine ⟨U1, _, _, _, rfl, rfl, SqL.of hU10, hvu, _, rfl, p, _, rfl, b10, (by omega), fun av q H11 x11 b11 hav hq => ⟨_, _, rfl, ?_⟩⟩
          have hcs11 := hcs10.upX b10 x11 nD
          have x811 := x810.trans x11
          refine ⟨fun σ' H' => ∃ u av q o11, σ' = ([some (.ref p), some (.int L), some (.int M), some (.ref D), some (.str zs), some (.int (i : Nat)), none, some (.ref E1), some (.str par), some (.str (uS u)), some av, o11, o12, o13] : L2.St) ∧ PQ H' av q ∧ SmQ q ∧ SameX p H4 H' ∧ BoxAt H' p (n + 25 + 20 * i) ∧ CsL H' D cs, ?_, ?_⟩
          · obtain ⟨ys, hD11, hy⟩ := id hcs11
            have hyl := hy.length
            refine ⟨_, rfl, Nat.zero_le _, fun t gt => ?_⟩
            have s12 := AT.Same.up (o := .lst []) gt
            have hD12 := s12 _ _ hD11
            refine ⟨ys, ⟨D, t, rfl, rfl, SqL.of hD12, SqL.of upd_same⟩, _, rfl, ?_⟩
            have b12 := b11.up s12
            have x812 := x811.trans (sameX_of s12)
            have hav12 := hav.up s12
            have hcs12 := hcs11.up s12
            generalize upd H11 t (.lst []) = H12 at s12 hD12 b12 x812 hav12 hcs12 ⊢
            cases hem : ys.isEmpty with
            | true => exact iteF (iteF ⟨u, av, q, _, rfl, hav12, hq, x812, b12.mono (by omega), hcs12⟩)
            | false =>
              have hpos : 0 < ys.length := by
                cases ys with
                | nil => cases hem
                | cons => simp
              refine iteT ⟨_, rfl, p, _, _, rfl, b12, (by omega), (by decide), (by decide +kernel), fun r13 H13 a13 a13' x13 b13 => ⟨rfl, _, rfl, ?_⟩⟩
              have hav13 : PQ H13 av q := hav12.upX b12 x13
              have hcs13 := hcs12.upX b12 x13 nD
              have x813 := x812.trans x13
              refine ite2 (fun _ => ?_) (fun _ => ⟨u, av, q, _, rfl, hav13, hq, x813, b13.mono (by omega), hcs13⟩)
              have hD13 := x13 _ _ nD hD12
              refine ⟨_, rfl, _, rfl, _, rfl, D, _, rfl, .inl (SqL.of hD13), p, _, _, rfl, b13, (by omega), (by omega), big1 (by omega), fun r14 H14 a14 a14' x14 b14 => ?_⟩
              obtain ⟨rn, rfl⟩ := Int.eq_ofNat_of_zero_le a14
              have hrn : rn < ys.length := by omega
              have hD14 := x14 _ _ nD hD13
              have hcs14 := hcs13.upX b13 x14 nD
              obtain ⟨ys', hD14', hy14⟩ := id hcs14
              have eys : ys' = ys := by rw [hD14] at hD14'; cases hD14'; rfl
              subst eys
              obtain ⟨oc, hoc, to, po, eo, hto, hpo⟩ := prd_getL hy14 (List.getElem?_eq_getElem hrn)
              have hocm : oc ∈ cs := List.mem_of_getElem? hoc
              refine ⟨D, _, _, .ref to, rfl, rfl, SqL.of hD14, atI_nat (by rw [List.getElem?_eq_getElem hrn, eo]), ?_⟩
              refine ⟨_, rfl, to, _, 2, _, rfl, rfl, SqT.of hto, rfl, _, rfl, to, _, 3, _, rfl, rfl, SqT.of hto, rfl, po, _, 0, _, rfl, rfl, SqT.of hpo, rfl, _, _, rfl, rfl, _, rfl, to, _, 3, _, rfl, rfl, SqT.of hto, rfl, po, _, 1, _, rfl, rfl, SqT.of hpo, rfl, (by show 2 ≤ sizeLine; decide), fun t2 gt2 => ?_⟩
              have s15 := AT.Same.up (o := .tup [.int (0 - oc.2.2.2.num), .int oc.2.2.2.den]) gt2
              have ht2 : upd H14 t2 (.tup [.int (0 - oc.2.2.2.num), .int oc.2.2.2.den]) t2 = some (pairQ (-oc.2.2.2)) := by
                rw [upd_same]
                unfold pairQ
                rw [Rat.neg_num, Rat.neg_den, Int.zero_sub]
              generalize upd H14 t2 (.tup [.int (0 - oc.2.2.2.num), .int oc.2.2.2.den]) = H15 at s15 ht2 ⊢
              refine ⟨_, rfl, to, _, 3, _, rfl, rfl, SqT.of (s15 _ _ hto), rfl, (by show 2 ≤ sizeLine; decide), fun L3 gL3 => ?_⟩
              have s16 := AT.Same.up (o := .lst [.ref t2, .ref po]) gL3
              have b16 := b14.up (s15.trans s16)
              refine ⟨_, rfl, p, _, _, rfl, b16, (by omega), (by decide), (by decide +kernel), fun r17 H17 a17 a17' x17 b17 => ?_⟩
              obtain ⟨vv, hvv, hvv2⟩ := two_at (x := .ref t2) (y := .ref po) a17 a17'
              have hL17 := x17 _ _ (box_ne2 (b14.up s15) gL3) upd_same
              refine ⟨L3, _, _, _, rfl, rfl, SqL.of hL17, hvv, _, _, rfl, ?_⟩
              have x817 := (x813.trans x14).trans ((sameX_of (s15.trans s16)).trans x17)
              have hcs17 := (hcs14.up (s15.trans s16)).upX b16 x17 nD
              have tt17 := SameX.tt b16 x17
              rcases hvv2 with rfl | rfl
              · exact ⟨oc.2.2.1, _, -oc.2.2.2, _, rfl, ⟨t2, rfl, tt17 _ _ (s16 _ _ ht2)⟩, b10_neg (hb10 oc hocm), x817, b17.mono (by omega), hcs17⟩
              · exact ⟨oc.2.2.1, _, oc.2.2.2, _, rfl, ⟨po, rfl, tt17 _ _ ((s15.trans s16) _ _ hpo)⟩, hb10 oc hocm, x817, b17.mono (by omega), hcs17⟩
          · rintro σ' H12 ⟨u, av, q, o11', rfl, hav, hq, x12, b12, hcs12⟩
            refine ⟨fun σ' H' => σ' = ([some (.ref p), some (.int L), some (.int M), some (.ref D), some (.str zs), some (.int (i : Nat)), none, some (.ref E1), some (.str par), some (.str (uS u)), some av, o11', some (.str (nmT st i)), o13] : L2.St) ∧ H' = H12, ?_, ?_⟩
            · have hlog : ((i : Int)).natAbs.log2 < 1920 := by
                have z : ∀ k : Nat, k < 8 → ((k : Int)).natAbs.log2 < 1920 := by decide +kernel
                exact z i hi8
              have ln : ∀ k : Nat, k < 8 → Str.length ((toString (k : Int) : String) : Str) ≤ 2 := by decide +kernel
              have l1 := ln i hi8
              rcases hstz with ⟨rfl, rfl⟩ | ⟨rfl, rfl⟩ | ⟨rfl, rfl⟩
              · refine ⟨_, rfl, rfl, true, by decide, iteT ⟨_, rfl, _, _, rfl, rfl, _, _, rfl, rfl, mul_c hi8, ?_⟩⟩
                rw [nm_c i hi8]
                exact ⟨rfl, rfl⟩
              · refine ⟨_, rfl, rfl, false, by decide, iteF ⟨_, rfl, _, rfl, _, rfl, hlog, _, _, rfl, rfl, ?_, ?_⟩⟩
                · have : Str.length "x1" = 2 := rfl
                  omega
                · rw [nm_x i hi8]
                  exact ⟨rfl, rfl⟩
              · refine ⟨_, rfl, rfl, false, by decide, iteF ⟨_, rfl, _, rfl, _, rfl, hlog, _, _, rfl, rfl, ?_, ?_⟩⟩
                · have : Str.length "beats" = 5 := rfl
                  omega
                · rw [nm_b i hi8]
                  exact ⟨rfl, rfl⟩
            rintro σ' H' ⟨rfl, rfl⟩
            obtain ⟨ys, hD12, hy⟩ := id hcs12
            have hyl := hy.length
            obtain ⟨pa, rfl, hpa⟩ := id hav
            refine ⟨_, rfl, _, rfl, _, rfl, _, rfl, _, rfl, (by show 4 ≤ sizeLine; decide), fun t gt => ⟨(by show 1 ≤ sizeLine; decide), fun L3 gL3 => ?_⟩⟩
            have s13 := AT.Same.up (o := .tup [.str (nmT st i), .str par, .str (uS u), .ref pa]) gt
            have s14 := AT.Same.up (o := .lst [.ref t]) gL3
            refine ⟨D, L3, _, _, rfl, rfl, (s13.trans s14) _ _ hD12, upd_same, (by rw [List.length_singleton]; omega), fun ML gM => ?_⟩
            have s15 := AT.Same.up (o := .lst (ys ++ [.ref t])) gM
            have s1215 := (s13.trans s14).trans s15
            have ht := (s14.trans s15) _ _ (upd_same (H := H') (a := t) (o := .tup [.str (nmT st i), .str par, .str (uS u), .ref pa]))
            have nM : ML ≠ p := box_ne2 (b12.up (s13.trans s14)) gM
            have gM0 : H ML = none := by
              cases e : H ML with
              | none => rfl
              | some o =>
                have e2 := (s13.trans s14) _ _ (x12 _ _ nM (x04 _ _ nM e))
                rw [gM] at e2
                cases e2
            have hM1 : (upd (upd (upd H' t (.tup [.str (nmT st i), .str par, .str (uS u), .ref pa])) L3 (.lst [.ref t])) ML (.lst (ys ++ [.ref t]))) ML = some (.lst (ys ++ [.ref t])) := upd_same
            generalize (upd (upd (upd H' t (.tup [.str (nmT st i), .str par, .str (uS u), .ref pa])) L3 (.lst [.ref t])) ML (.lst (ys ++ [.ref t]))) = H15 at s1215 ht hM1 ⊢
            have hcsM : CsL H15 ML (cs ++ [(nmT st i, par, u, q)]) := ⟨_, hM1, prd_app (Paired.mapP hy fun _ _ z => z.up (TT.of s1215)) (.cons ⟨t, pa, rfl, ht, s1215 _ _ hpa⟩ .nil)⟩
            have okM : CuesOk (cs ++ [(nmT st i, par, u, q)]) := by
              refine ⟨.snoc hok.good ?_ hpar, fun c hc => ?_, fun c hc => ?_, ?_⟩
              · intro hin
                rcases List.mem_cons.mp hin with z | z
                · exact nmst z
                · exact fresh z
              · rcases List.mem_append.mp hc with hc | hc
                · exact hok.name c hc
                · rw [List.mem_singleton] at hc
                  subst hc
                  exact nmok
              · rcases List.mem_append.mp hc with hc | hc
                · exact hok.size c hc
                · rw [List.mem_singleton] at hc
                  subst hc
                  exact b10_sz hq
              · rw [List.length_append, List.length_singleton]; omega
            refine ⟨_, rfl, ML, _, rfl, hcsM, okM, fun F ms H16 s16 gF hF pm => ⟨F, _, rfl, .inl (SqL.of hF), _, rfl, _, _, rfl, rfl, _, rfl, ?_⟩⟩
            have hml := pm.length
            have x16 := x12.trans (sameX_of (s1215.trans s16))
            have b16 := (b12.up (s1215.trans s16)).mono (m := n + 10 + 20 * (i + 1)) (by omega)
            refine ite2 (fun h1 => ?_) (fun h1 => ?_)
            · have h1' : (ms.length : Int) ≤ (L : Int) := of_decide_eq_true h1
              refine ⟨_, rfl, ML, _, ⟨_, _, _, _, _, _, _, _, rfl⟩, x16, b16, nM, gM0, hcsM.up s16, okM, by rw [← hml]; omega, by rw [List.length_append, List.length_singleton]; omega, fun c hc => ?_, fun c hc => ?_⟩
              · rcases List.mem_append.mp hc with hc | hc
                · exact hb10 c hc
                · rw [List.mem_singleton] at hc
                  subst hc
                  exact hq
              · rcases List.mem_append.mp hc with hc | hc
                · obtain ⟨j, hj, e⟩ := hnm c hc
                  exact ⟨j, by omega, e⟩
                · rw [List.mem_singleton] at hc
                  subst hc
                  exact ⟨i, by omega, rfl⟩
            · refine ⟨_, rfl, D, cs, ⟨_, _, _, _, _, _, _, _, rfl⟩, x16, b16, nD, gD, hcs12.up (s1215.trans s16), hok, hmom, by omega, hb10, fun c hc => ?_⟩
              obtain ⟨j, hj, e⟩ := hnm c hc
              exact ⟨j, by omega, e⟩
    · obtain ⟨D, cs, ⟨o5, o7, o8, o9, o10, o11, o12, o13, rfl⟩, xj, bj, nD, gD, hcs, hok, hmom, hcl, hb10, hnm⟩ := hP
      have hld : LdOk cs := fun c hc => by
        obtain ⟨j, hj, e⟩ := hnm c hc
        rw [e]
        exact (nm_facts st hst j (by omega)).2.2
      exact ⟨_, rfl, k D cs H' (x04.trans xj) (bj.mono (by omega)) nD hcs hok hmom (by omega) ⟨hb10, hld, st, hst, fun c hc => by obtain ⟨j, hj, e⟩ := hnm c hc; exact ⟨j, by omega, e⟩⟩ gD⟩
end
end K34

set_option maxHeartbeats 4000000
namespace K34
open PySem PySem.Spec PyProof.Rows L2 AT
section
variable {P : Program} {w : World} {K : PySem.W.Frag} {mg : Str → Option Value} {base : Heap}
theorem SameX.tq {p : Addr} {n : Nat} {H H' : Hp} (b : BoxAt H p n) (s : SameX p H H') : TQ K H H' := ⟨SameX.tt b s, fun x d fs e => s x _ (fun z => by
  subst z
  obtain ⟨_, _, _, e2, _⟩ := b
  rw [e] at e2
  cases e2) e⟩
theorem CuT.it {H : Hp} {v : V} {c : Cue} (h : CuT K H v c) : ItC K H v c := by
  obtain ⟨t, p, rfl, h1, h2⟩ := h
  exact ⟨_, ⟨t, rfl, .inr h1⟩, .obj h2⟩
def spPass (K : PySem.W.Frag) : Sp := fun vs H Q _ => ∃ (D : Addr) (cs : List Cue), vs = [.ref D] ∧ CsL H D cs ∧ cs.length < 1000 ∧ (∀ c ∈ cs, Bits 1000 c.2.2.2) ∧ ∀ F xs H', Same H H' → H F = none → H' F = some (.lst xs) → Paired (CuT K H') xs cs → Q (.ref F) H'
theorem sc_w_passed : FnScope ["_law_cues_here", "_law_name", "_law_parent", "_law_unit", "_law_amount_here"] ["_law_cues_here"] (defScope s_w_passed) := ⟨rfl, rfl, rfl, by decide +kernel, rfl, by decide +kernel, by decide +kernel⟩
theorem ok_w_passed (T : Tx K mg base) : Ok P w K mg base 5 (d_w_passed.loc K) ["_law_cues_here"] (spPass K) := by
  refine mk_ok (k := 4) T.f_w_passed sc_w_passed (fun _ _ _ _ _ _ us hl => match us, hl with | [_], _ => rfl) (fun vs H Q E h => ?_) (fun cdv A outer s H vs Q E hr h => ?_)
  · obtain ⟨D, cs, rfl, _⟩ := h
    rfl
  · obtain ⟨D, cs, rfl, hcs, hcl, hb, k⟩ := h
    refine ⟨_, (pss_one (ps_ret (pe_lc (own := [("_law_name", 1), ("_law_parent", 2), ("_law_unit", 3), ("_law_amount_here", 4)]) (g := (gTup K 4 (gCons (gName 1) (gCons (gName 2) (gCons (gName 3) (gCons (gName 4) gNil)))))) (tt := tYes) (by rfl) sc_w_passed.nd (pi_list (pv 0)) (blkOk_by (own := [("_law_name", 1), ("_law_parent", 2), ("_law_unit", 3), ("_law_amount_here", 4)]) (N := ["_law_cues_here", "_law_name", "_law_parent", "_law_unit", "_law_amount_here"]) (sc := defScope s_w_passed) (by decide +kernel)) (fun _ _ _ _ _ => (pg_tup rfl (pgs_cons (pg_name (i := 1) sc_w_passed.nd rfl (Or.inl rfl)) (pgs_cons (pg_name (i := 2) sc_w_passed.nd rfl (Or.inl rfl)) (pgs_cons (pg_name (i := 3) sc_w_passed.nd rfl (Or.inl rfl)) (pgs_cons (pg_name (i := 4) sc_w_passed.nd rfl (Or.inl rfl)) pgs_nil)))))) (fun _ _ _ _ _ => pts_nil) (fun _ _ _ _ _ => (pe_tup (pa_cons (pv 1) (pa_cons (pv 2) (pa_cons (pv 3) (pa_cons (ok_make T.mkr_Amount (ok_Amount_init_ T) (hr.mono (by decide)) rfl T.g_Amount passL (pa_cons (pe_ix (show IxR _ (rIxT K) from ix_tup) (pv 4) pe_int (fun _ _ => rfl)) (pa_cons (pe_ix (show IxR _ (rIxT K) from ix_tup) (pv 4) pe_int (fun _ _ => rfl)) pa_nil))) pa_nil))))))))), ?_⟩
    have hsz : sizeLine = 16777216 := sizeLine_eq
    obtain ⟨xs, hD, hx⟩ := id hcs
    have hxl := hx.length
    refine ⟨_, rfl, D, rfl, ⟨_, SqL.of hD⟩, fun F gF => ?_⟩
    refine lc_list (K := K) (a := D) (xs := xs) (fun i H' => Same H H' ∧ ∃ acc, H' F = some (.lst acc) ∧ Paired (CuT K H') acc (cs.take i)) ⟨AT.Same.up gF, [], upd_same, .nil⟩ (fun i H' _ hP => SqL.of (hP.1 _ _ hD)) (fun i x H' hxi hP => ?_) (fun H' hP => ?_)
    · obtain ⟨sm, acc, hacc, hp⟩ := hP
      obtain ⟨c, hc, t, pr, rfl, ht, hpr⟩ := prd_getL hx hxi
      have hlu := hp.length
      rw [List.length_take] at hlu
      have hpr' := sm _ _ hpr
      refine ⟨t, _, rfl, SqT.of (sm _ _ ht), rfl, _, _, rfl, _, _, rfl, _, _, rfl, _, _, rfl, rfl, rfl, ?_⟩
      dsimp only [tYes]
      refine iteT ⟨_, rfl, _, rfl, _, rfl, _, rfl, pr, _, 0, _, rfl, rfl, SqT.of hpr', rfl, _, rfl, pr, _, 1, _, rfl, rfl, SqT.of hpr', rfl, mk_amtQ (hb c (List.mem_of_getElem? hc)) (by decide) fun p H3 s3 gp hp3 => ⟨(by show 4 ≤ sizeLine; decide), fun t2 gt2 => ?_⟩⟩
      have sT := AT.Same.up (o := .tup [.str c.1, .str c.2.1, .str (uS c.2.2.1), .ref p]) gt2
      have hacc3 := sT _ _ (s3 _ _ hacc)
      refine ⟨acc, hacc3, (by omega), AT.Same.new (sm.trans (s3.trans sT)) gF, acc ++ [.ref t2], upd_same, ?_⟩
      rw [List.take_add_one, hc]
      have tu : TQ K _ (upd (upd H3 t2 (.tup [.str c.1, .str c.2.1, .str (uS c.2.2.1), .ref p])) F (.lst (acc ++ [.ref t2]))) := TQ.up hacc3 (fun _ z => nomatch z) (fun _ _ z => nomatch z)
      exact prd_app (Paired.mapP hp fun _ _ z => z.tq ((TQ.of (s3.trans sT)).trans tu)) (.cons ⟨t2, p, rfl, tu.1 _ _ upd_same, (hp3.up sT).tq tu⟩ .nil)
    · obtain ⟨sm, acc, hacc, hp⟩ := hP
      rw [hxl, List.take_length] at hp
      exact k F acc H' sm gF hacc hp
end
end K34

set_option maxHeartbeats 4000000
namespace K34
open PySem PySem.Spec PyProof.Rows L2 AT
section
variable {P : Program} {w : World} {K : PySem.W.Frag} {mg : Str → Option Value} {base : Heap}
/-! ### need_sheet -/
def NoS (K : PySem.W.Frag) (H : Hp) (v : V) : Prop := AnyV K H v ∧ ∀ a C dx fs, v = .ref a → H a = some (.ins C dx fs) → C = cA K ∨ PySem.W.kitOne K (.ref C) (.ref (cS K)) = some false
theorem isi_sheet (T : Tx K mg base) {H : Hp} {v : V} (h : NoS K H v) : ∃ t, TyX K H v t ∧ PySem.W.kitOne K t (.ref (cS K)) = some false := by
  obtain ⟨h, hn⟩ := h
  cases h with
  | non => exact ⟨_, .base .non, T.k_NoneType_Sheet⟩
  | bl b => exact ⟨_, .base (.bl b), T.k_bool_Sheet⟩
  | int i => exact ⟨_, .base (.int i), T.k_int_Sheet⟩
  | str x => exact ⟨_, .base (.str x), T.k_str_Sheet⟩
  | lst e => exact ⟨_, .base (.lst e), T.k_list_Sheet⟩
  | tup e => exact ⟨_, .base (.tup e), T.k_tuple_Sheet⟩
  | dct e => exact ⟨_, .base (.dK e), T.k_dict_Sheet⟩
  | amt e => obtain ⟨dx, e⟩ := e; exact ⟨_, T.ins_Amount e, T.k_Amount_Sheet⟩
  | oth o e =>
    rcases hn _ _ _ _ rfl e with z | z
    · exact absurd z o.ne
    · exact ⟨_, o.ty e, z⟩
def spNeedS (K : PySem.W.Frag) : Sp := fun vs H Q E => ∃ v, vs = [v] ∧ ((∃ s cs, v = .ref s ∧ ShtOk K H s cs ∧ Q .non H) ∨ (NoS K H v ∧ Rf K "InvalidSheet" "value" v H E))
theorem sc_need_sheet : FnScope ["value"] ["value"] (defScope s_need_sheet) := ⟨rfl, rfl, rfl, by decide +kernel, rfl, by decide +kernel, by decide +kernel⟩
theorem ok_need_sheet (T : Tx K mg base) : Ok P w K mg base 3 (d_need_sheet.loc K) ["value"] (spNeedS K) := by
  refine mk_ok (k := 2) T.f_need_sheet sc_need_sheet (fun _ _ _ _ _ _ us hl => match us, hl with | [_], _ => rfl) (fun vs H Q E h => ?_) (fun cdv A outer s H vs Q E hr h => ?_)
  · obtain ⟨v, rfl, _⟩ := h
    rfl
  · obtain ⟨v, rfl, hc⟩ := h
    refine ⟨_, (pss_one (ps_if (pt_not (pt_val (pe_callB call_isi (by rfl) T.b_isinstance (by decide +kernel) (pa_cons (pv 0) (pa_cons (pe_gr T.g_Sheet) pa_nil))))) (pss_one (ps_rs rfl (mx_InvalidSheet T (hr.mono (by decide))) (takes_of rfl rfl rfl rfl) rfl (pv 0))) pss_nil)), ?_⟩
    rcases hc with ⟨s, cs, rfl, hs, k⟩ | ⟨hn, k⟩
    · obtain ⟨dx, fs, lm, ms, h1, _⟩ := hs.at
      exact ⟨_, rfl, _, _, _, _, _, rfl, .own _, T.ins_Sheet h1, T.k_Sheet_Sheet, _, rfl, iteF k⟩
    · obtain ⟨t, ty, kit⟩ := isi_sheet T hn
      exact ⟨_, rfl, _, _, _, _, _, rfl, .own _, ty, kit, _, rfl, iteT ⟨_, rfl, mk_at T.xc_InvalidSheet.oex T.xc_InvalidSheet.no (rf_of k)⟩⟩
theorem NoS.up {H H' : Hp} {v : V} (h : NoS K H v) (s : Same H H') : NoS K H' v := by
  obtain ⟨h1, h2⟩ := h
  refine ⟨h1.up s, fun a C dx fs e1 e2 => ?_⟩
  have key : ∀ o, H a = some o → C = cA K ∨ PySem.W.kitOne K (.ref C) (.ref (cS K)) = some false := fun o e => by
    have e3 := s _ _ e
    rw [e2] at e3
    cases e3
    exact h2 a C dx fs e1 e
  subst e1
  cases h1 with
  | lst e => exact key _ e
  | tup e => exact key _ e
  | dct e => exact key _ e
  | amt e => obtain ⟨_, e⟩ := e; exact key _ e
  | oth o e => exact key _ e
theorem noS_non {H : Hp} : NoS K H .non := ⟨.non, fun _ _ _ _ e => nomatch e⟩
theorem noS_bl {H : Hp} (b : Bool) : NoS K H (.bl b) := ⟨.bl _, fun _ _ _ _ e => nomatch e⟩
theorem noS_int {H : Hp} (b : Int) : NoS K H (.int b) := ⟨.int _, fun _ _ _ _ e => nomatch e⟩
theorem noS_str {H : Hp} (b : Str) : NoS K H (.str b) := ⟨.str _, fun _ _ _ _ e => nomatch e⟩
theorem noS_dk {H : Hp} {a : Addr} {kvs : List (Key × V)} (h : H a = some (.dK kvs)) : NoS K H (.ref a) := ⟨.dct h, fun b _ _ _ e z => by cases e; rw [h] at z; cases z⟩
end
end K34

set_option maxHeartbeats 4000000
namespace K34
open PySem PySem.Spec PyProof.Rows L2 AT
/-- the first cue whose name is taken, or whose parent is not there -/
def BadN (cs : List Cue) (i : Nat) (c f : Str) (x : V) : Prop := PR.Good ("start" : Str) (cs.take i) ∧ ∃ y, cs[i]? = some y ∧
  ((y.1 ∈ nmS (cs.take i) ∧ c = "Duplicate" ∧ f = "label" ∧ x = .str y.1) ∨ (y.1 ∉ nmS (cs.take i) ∧ y.2.1 ∉ nmS (cs.take i) ∧ c = "UnknownCue" ∧ f = "label" ∧ x = .str y.2.1))
section
variable {P : Program} {w : World} {K : PySem.W.Frag} {mg : Str → Option Value} {base : Heap}
/-- the cues that are read, taken in -/
def ShCs (K : PySem.W.Frag) (H : Hp) (cs : List Cue) (E : XK) (G : Addr → Hp → Prop) : Prop :=
  (∃ i c f x, BadN cs i c f x ∧ Rf K c f x H E) ∨ (PR.Good ("start" : Str) cs ∧ ((8 < (momS cs).length ∧ Rf K "TooMany" "most" (.int 8) H E) ∨ ((momS cs).length ≤ 8 ∧ ∀ p H', Same H H' → H p = none → IsSheet K H' p cs → G p H')))
/-- Sheet(cues) -/
theorem mk_sheetR {H : Hp} {v : V} {G : Addr → Hp → Prop} {E : XK} (h : ShIn K H v E fun cs => ∀ p H', Same H H' → H p = none → IsSheet K H' p cs → G p H') :
    ∀ x dx, H x = none → H dx = none → dx ≠ x → spSheet K [.ref x, v] (upd (upd H dx (.own x)) x (.ins (cS K) dx [])) (fun v H2 => v = .non ∧ G x H2) E := fun x dx gx gdx ne => by
  have s1 : Same H (upd (upd H dx (.own x)) x (.ins (cS K) dx [])) := AT.Same.new (AT.Same.up gdx) gx
  refine ⟨x, dx, v, H, rfl, upd_same, s1, gx, ?_⟩
  have fin : ∀ cs, (∀ p H', Same H H' → H p = none → IsSheet K H' p cs → G p H') → ∀ H', Sm [x] (upd (upd H dx (.own x)) x (.ins (cS K) dx [])) H' → IsSheet K H' x cs → V.non = .non ∧ G x H' := fun cs k H' m hs => ⟨rfl, k x H' (fun b o e => m _ _ (by rw [List.mem_singleton]; rintro rfl; rw [gx] at e; cases e) (s1 _ _ e)) gx hs⟩
  rcases h with h | ⟨xs, cs, h1, h2, h3, h4, h5 | ⟨h5, h6 | ⟨h6, k⟩⟩⟩
  · exact .inl h
  · exact .inr ⟨xs, cs, h1, h2, h3, h4, .inl h5⟩
  · exact .inr ⟨xs, cs, h1, h2, h3, h4, .inr ⟨h5, .inl h6⟩⟩
  · exact .inr ⟨xs, cs, h1, h2, h3, h4, .inr ⟨h5, .inr ⟨h6, fin cs k⟩⟩⟩
theorem ShCs.up {H H' : Hp} {cs : List Cue} {E : XK} {G : Addr → Hp → Prop} (h : ShCs K H cs E G) (s : Same H H') : ShCs K H' cs E G := by
  rcases h with ⟨i, c, f, x, h1, h2⟩ | ⟨h1, ⟨h2, h3⟩ | ⟨h2, k⟩⟩
  · exact .inl ⟨i, c, f, x, h1, h2.up s⟩
  · exact .inr ⟨h1, .inl ⟨h2, h3.up s⟩⟩
  · exact .inr ⟨h1, .inr ⟨h2, fun p H2 s2 gp => k p H2 (s.trans s2) (none_of s gp)⟩⟩
/-- .. of a list of told tuples -/
theorem shIn_of {H : Hp} {a : Addr} {xs : List V} {cs : List Cue} {E : XK} {G : Addr → Hp → Prop} (ha : H a = some (.lst xs)) (hx : Paired (CuT K H) xs cs) (hok : ∀ c ∈ cs, isNameS c.1 = true ∧ SzB 1 c.2.2.2) (hl : cs.length < 30) (h : ShCs K H cs E G) :
    ShIn K H (.ref a) E fun cs => ∀ p H', Same H H' → H p = none → IsSheet K H' p cs → G p H' := by
  have hxl := hx.length
  have ci : ∀ i, i ≤ cs.length → PR.Good ("start" : Str) (cs.take i) → CuesOk (cs.take i) := fun i hi g => ⟨g, fun c hc => (hok c (List.mem_of_mem_take hc)).1, fun c hc => (hok c (List.mem_of_mem_take hc)).2, by rw [List.length_take]; omega⟩
  rcases h with ⟨i, c, f, x, ⟨hg, y, hy, hc⟩, kE⟩ | ⟨hg, h⟩
  · have hi : i < cs.length := (List.getElem?_eq_some_iff.mp hy).1
    have hl2 : (cs.take i).length = i := by rw [List.length_take]; omega
    obtain ⟨v, hv, t, p, rfl, ht, hp⟩ := prd_get hx hy
    refine .inr ⟨xs, cs.take i, ⟨a, rfl, .inl ha⟩, ?_, by omega, ci i (by omega) hg, .inl ⟨.ref t, c, f, x, by rw [hl2]; exact hv, .inr ⟨.str y.1, .str y.2.1, .str (uS y.2.2.1), .ref p, ⟨t, rfl, .inr ht⟩, .str _, .str _, .str _, (Qv.obj hp).any, fun z e => by cases e; have := (name_len (hok y (List.mem_of_getElem? hy)).1).2; rw [sizeLine_eq]; omega, .inr ⟨y.1, rfl, (hok y (List.mem_of_getElem? hy)).1, ?_⟩⟩, kE⟩⟩
    · rw [hl2]
      exact Paired.mapP (prd_take hx i) fun _ _ z => z.it
    · rcases hc with ⟨h1, rfl, rfl, rfl⟩ | ⟨h1, h2, rfl, rfl, rfl⟩
      · exact .inl ⟨h1, rfl, rfl, rfl⟩
      · exact .inr ⟨h1, .inl ⟨fun q e => by cases e; exact h2, rfl, rfl, rfl⟩⟩
  · have e : cs.take cs.length = cs := List.take_length
    refine .inr ⟨xs, cs, ⟨a, rfl, .inl ha⟩, ?_, by omega, by have := ci cs.length (Nat.le_refl _) (by rw [e]; exact hg); rwa [e] at this, .inr ⟨hxl, h⟩⟩
    rw [← hxl, List.take_length]
    exact Paired.mapP hx fun _ _ z => z.it
end
/-! ### told cues, compared -/
def QEqS (K : PySem.W.Frag) (p q : Addr) (H : Hp) (b : Bool) : Prop := ∃ x y, IsQ K H p x ∧ IsQ K H q y ∧ b = decide (x = y)
theorem eqB_amtS {X : Cx} (T : Tx X.K X.mg X.base) : EqB X 2 (CIns (cA X.K) (QEqS X.K)) := by
  refine eqB_ins T.eq_Amount (ok_Amount_eq_ T) (E := E0) passL (fun p q H b h => ?_) fun p H b h => ?_
  · obtain ⟨x, y, h1, h2, rfl⟩ := h
    exact ⟨p, q, x, y, rfl, h1, h2, rfl, rfl⟩
  · obtain ⟨x, y, h1, h2, rfl⟩ := h
    exact decide_eq_true (h1.inj h2)
def CMs (K : PySem.W.Frag) : Cmp := fun x y H b => (∃ a c : Str, x = .str a ∧ y = .str c ∧ b = decide (a = c)) ∨ CIns (cA K) (QEqS K) x y H b
theorem eqB_ms {X : Cx} (T : Tx X.K X.mg X.base) : EqB X 2 (CMs X.K) := by
  intro A pins s σ H x y u v b sb I rx ry d
  rcases d with ⟨a, c, rfl, rfl, rfl⟩ | d
  · exact (eqB_pair.mono (by decide)) A pins s σ H _ _ u v _ sb I rx ry (.inr ⟨rfl, rfl, by unfold eqV; rw [Bool.eq_iff_iff]; simp⟩)
  · exact eqB_amtS T A pins s σ H x y u v b sb I rx ry d
theorem ms_refl (K : PySem.W.Frag) : Refl (CMs K) := by
  rintro x H b (⟨a, c, rfl, e, rfl⟩ | ⟨p, q, _, _, _, _, e1, e2, _, _, x', y', h1, h2, rfl⟩)
  · cases e
    exact decide_eq_true rfl
  · rw [e1] at e2
    cases e2
    exact decide_eq_true (h1.inj h2)
theorem eqB_cue {X : Cx} (T : Tx X.K X.mg X.base) : EqB X 3 (CTuH (CMs X.K)) := eqB_tuH (eqB_ms T) (ms_refl X.K)
section
variable {P : Program} {w : World} {K : PySem.W.Frag} {mg : Str → Option Value} {base : Heap}
theorem cue_cmp {H : Hp} {v v' : V} {c c' : Cue} (h : CuT K H v c) (g : CuT K H v' c') : CTuH (CMs K) v v' H (decide (c = c')) := by
  obtain ⟨t, p, rfl, ht, hp⟩ := h
  obtain ⟨t', p', rfl, ht', hp'⟩ := g
  obtain ⟨d1, e1⟩ := id hp
  obtain ⟨d2, e2⟩ := id hp'
  refine ⟨t, t', _, _, fun i => if i = 0 then decide (c.1 = c'.1) else if i = 1 then decide (c.2.1 = c'.2.1) else if i = 2 then decide (uS c.2.2.1 = uS c'.2.2.1) else decide (c.2.2.2 = c'.2.2.2), rfl, rfl, ht, ht', fun i a b h1 h2 => ?_, ?_⟩
  · match i, h1, h2 with
    | 0, h1, h2 => cases h1; cases h2; exact .inl ⟨_, _, rfl, rfl, rfl⟩
    | 1, h1, h2 => cases h1; cases h2; exact .inl ⟨_, _, rfl, rfl, rfl⟩
    | 2, h1, h2 => cases h1; cases h2; exact .inl ⟨_, _, rfl, rfl, rfl⟩
    | 3, h1, h2 => cases h1; cases h2; exact .inr ⟨p, p', d1, d2, _, _, rfl, rfl, e1, e2, _, _, hp, hp', rfl⟩
    | i + 4, h1, h2 => simp at h1
  · obtain ⟨n, q, u, x⟩ := c
    obtain ⟨n', q', u', x'⟩ := c'
    have eu : decide (uS u = uS u') = decide (u = u') := by cases u <;> cases u' <;> decide
    show decide ((n, q, u, x) = (n', q', u', x')) = ((List.range 4).all _ && true)
    rw [show List.range 4 = [0, 1, 2, 3] from rfl]
    simp only [List.all_cons, List.all_nil, Bool.and_true, if_true, eu]
    rw [Bool.eq_iff_iff]
    simp [and_assoc]
theorem cues_cmp {H : Hp} {D D' : Addr} {xs ys : List V} {cs cs' : List Cue} (hD : H D = some (.lst xs)) (hD' : H D' = some (.lst ys)) (h : Paired (CuT K H) xs cs) (g : Paired (CuT K H) ys cs') : CLst (CTuH (CMs K)) (.ref D) (.ref D') H (decide (cs = cs')) := by
  have l1 := h.length
  have l2 := g.length
  refine ⟨D, D', xs, ys, rfl, rfl, hD, hD', ?_⟩
  by_cases hl : xs.length = ys.length
  · refine .inr ⟨fun i => decide (cs[i]? = cs'[i]?), hl, fun i x y hx hy => ?_, ?_⟩
    · obtain ⟨m, hm, hmb⟩ := prd_getL h hx
      obtain ⟨n, hn, hnb⟩ := prd_getL g hy
      have e : decide (cs[i]? = cs'[i]?) = decide (m = n) := by rw [hm, hn]; simp
      show CTuH (CMs K) x y H (decide (cs[i]? = cs'[i]?))
      rw [e]
      exact cue_cmp hmb hnb
    · rw [Bool.eq_iff_iff, List.all_eq_true, decide_eq_true_eq]
      constructor
      · rintro rfl i _
        exact decide_eq_true rfl
      · intro z
        refine List.ext_getElem? fun i => ?_
        by_cases hi : i < xs.length
        · exact of_decide_eq_true (z i (List.mem_range.mpr hi))
        · rw [List.getElem?_eq_none (by omega), List.getElem?_eq_none (by omega)]
  · exact .inl ⟨hl, decide_eq_false fun z => hl (by rw [l1, l2, z])⟩
def spEqS (K : PySem.W.Frag) : Sp := fun vs H Q _ => ∃ s s' cs cs', vs = [.ref s, .ref s'] ∧ ShtOk K H s cs ∧ ShtOk K H s' cs' ∧ ∀ H', Same H H' → Q (.bl (decide (cs = cs'))) H'
theorem sc_Sheet_eq_ : FnScope ["self", "other"] ["self", "other"] (defScope s_Sheet_eq_) := ⟨rfl, rfl, rfl, by decide +kernel, rfl, by decide +kernel, by decide +kernel⟩
theorem ok_Sheet_eq_ (T : Tx K mg base) : Ok P w K mg base 5 (d_Sheet_eq_.loc K) ["self", "other"] (spEqS K) := by
  refine mk_ok (k := 4) T.f_Sheet_eq_ sc_Sheet_eq_ (fun _ _ _ _ _ _ us hl => match us, hl with | [_, _], _ => rfl) (fun vs H Q E h => ?_) (fun cdv A outer s H vs Q E hr h => ?_)
  · obtain ⟨s, s', cs, cs', rfl, _⟩ := h
    rfl
  · obtain ⟨s, s', cs, cs', rfl, hs, hs', k⟩ := h
    refine ⟨_, (pss_cons (ps_if (pt_not (pt_val (pe_callB call_isi (by rfl) T.b_isinstance (by decide +kernel) (pa_cons (pv 1) (pa_cons (pe_gr T.g_Sheet) pa_nil))))) (pss_one (ps_ret pe_never)) pss_nil)
      (pss_one (ps_ret (pe_cmpR (op_eqB (rcB_lst (eqB_cue T)) (hr.mono (by decide))) (ok_meth0 T.cls_Sheet T.m_Sheet_cues (ok_Sheet_cues T) (hr.mono (by decide)) passL (pv 0) ) (ok_meth0 T.cls_Sheet T.m_Sheet_cues (ok_Sheet_cues T) (hr.mono (by decide)) passL (pv 1) ) (nomark _))))), ?_⟩
    obtain ⟨dx, fs, dc, kvs, dr, kr, h1, h2, h3, hno, h4, h5, h6, h7⟩ := hs.at3
    obtain ⟨dx', fs', dc', kvs', dr', kr', h1', h2', h3', hno', h4', h5', h6', h7'⟩ := hs'.at3
    have n1 : fs.lookup ("cues" : Str) = none := hno _ (by decide) (by decide) (by decide) (by decide)
    have n2 : fs'.lookup ("cues" : Str) = none := hno' _ (by decide) (by decide) (by decide) (by decide)
    refine ⟨_, rfl, _, _, _, _, _, rfl, .own _, T.ins_Sheet h1', T.k_Sheet_Sheet, _, rfl, iteF ?_⟩
    refine ⟨_, rfl, s, dx, _, rfl, h1, n1, s, cs, rfl, hs, fun D xs H1 s1 gD hD hx => ?_⟩
    refine ⟨_, rfl, s', dx', _, rfl, s1 _ _ h1', n2, s', cs', rfl, hs'.up s1, fun D' ys H2 s2 gD' hD' hy => ?_⟩
    exact ⟨_, cues_cmp (s2 _ _ hD) hD' (Paired.mapP hx fun _ _ z => z.tq (TQ.of s2)) hy, k H2 (s1.trans s2)⟩
theorem ShtOk.upX {H H' : Hp} {s p : Addr} {n : Nat} {cs : List Cue} (h : ShtOk K H s cs) (b : BoxAt H p n) (x : SameX p H H') : ShtOk K H' s cs := by
  obtain ⟨⟨⟨dx, dc, dr, lm, dw, hb, ⟨ms, h1, h2⟩, kvs, h3, h4⟩, dx', fs', dc', kc', o1, o2, o3⟩, hok⟩ := h
  obtain ⟨i1, i2, i3, hp, _⟩ := id b
  have nb : ∀ {a : Addr} {o : HO}, H a = some o → (∀ xs, o ≠ .lst xs) → H' a = some o := fun {a o} e hn => x _ _ (fun z => by subst z; rw [hp] at e; cases e; exact hn _ rfl) e
  have tt : TT H H' := SameX.tt b x
  have tq : TQ K H H' := SameX.tq b x
  have nlm : lm ≠ p := by
    rintro rfl
    rw [hp] at h1
    cases h1
    have e : ∃ r rs, PR.momC ("start" : Str) cs = r :: rs := by
      cases q : PR.momC ("start" : Str) cs with
      | nil => rw [q] at h2; cases h2
      | cons r rs => exact ⟨r, rs, rfl⟩
    obtain ⟨r, rs, e⟩ := e
    rw [e] at h2
    cases h2 with
    | cons z _ =>
      obtain ⟨_, _, z, _⟩ := z
      cases z
  refine ⟨⟨⟨dx, dc, dr, lm, dw, ?_, ⟨ms, x _ _ nlm h1, Paired.mapP h2 fun _ _ z => z.up tt⟩, kvs, nb h3 (fun _ z => nomatch z), fun i j a c ha hc => ?_⟩, dx', fs', dc', kc', nb o1 (fun _ z => nomatch z), o2, nb o3 (fun _ z => nomatch z)⟩, hok⟩
  · obtain ⟨g1, g2, ⟨k1, g3, g4⟩, k2, g5, g6⟩ := hb
    refine ⟨nb g1 (fun _ z => nomatch z), g2, ⟨k1, ?_, Paired.mapP g4 fun _ _ z => ?_⟩, k2, nb g5 (fun _ z => nomatch z), Paired.mapP g6 fun _ _ z => ⟨z.1, z.2.up tt⟩⟩
    · rcases g3 with z | ⟨o, z⟩
      · exact .inl (nb z (fun _ z => nomatch z))
      · exact .inr ⟨o, nb z (fun _ z => nomatch z)⟩
    · obtain ⟨z1, t, q, z2, z3, z4⟩ := z
      exact ⟨z1, t, q, z2, tt _ _ z3, z4.tq tq⟩
  · obtain ⟨v, z1, z2⟩ := h4 i j a c ha hc
    exact ⟨v, z1, z2.up tt⟩
theorem ShtOk.ofTy (T : Tx K mg base) {H : Hp} {s : Addr} {cs : List Cue} (h : ShtOk K H s cs) : OfTy K H (cS K) (.ref s) := by
  obtain ⟨dx, fs, lm, ms, h1, _⟩ := h.at
  exact ⟨_, T.ins_Sheet h1, .inl rfl⟩
theorem oth_sheet (T : Tx K mg base) : OthC K (cS K) where
  ty := fun e => T.ins_Sheet e
  int := T.k_Sheet_int
  bool := T.k_Sheet_bool
  lst := T.k_Sheet_list
  tup := T.k_Sheet_tuple
  str := T.k_Sheet_str
  amt := T.k_Sheet_Amount
  ne := fun z => by
    have h1 : PySem.W.kitOne K (.ref (cS K)) (.ref (cA K)) = some false := T.k_Sheet_Amount
    have h2 : PySem.W.kitOne K (.ref (cA K)) (.ref (cA K)) = some true := T.k_Amount_Amount
    rw [z, h2] at h1
    cases h1
end
end K34

set_option maxHeartbeats 4000000
namespace K34
open PySem PySem.Spec PyProof.Rows L2 AT
/-! ### sheets turned about -/
abbrev trS (s : Bool → Bool) (m : Bool → Rat) (cs : List Cue) : List Cue := cs.map (PR.trC s m)
theorem tr_ok {cs : List Cue} {s : Bool → Bool} {m : Bool → Rat} (hok : CuesOk cs) (hz : ∀ c ∈ cs, SzB 1 (m c.2.2.1 * c.2.2.2)) : CuesOk (trS s m cs) := by
  refine ⟨PR.Good.tr hok.good, fun c hc => ?_, fun c hc => ?_, by rw [List.length_map]; exact hok.len⟩
  · obtain ⟨d, hd, rfl⟩ := List.mem_map.mp hc
    exact hok.name d hd
  · obtain ⟨d, hd, rfl⟩ := List.mem_map.mp hc
    exact hz d hd
theorem tr_mom {cs : List Cue} {s : Bool → Bool} {m : Bool → Rat} (T : PR.Trn s m) : (momS (trS s m cs)).length = (momS cs).length := T.mom ("start" : Str) cs
def mOne : Bool → Rat := fun _ => 1
def mNeg : Bool → Rat := fun _ => -1
def mAt (w : Bool) (q : Rat) : Bool → Rat := fun u => if u = w then q else 1
theorem trn_ex : PR.Trn (fun b => !b) mOne := ⟨fun u v h => by simpa using h, fun _ => by unfold mOne; decide +kernel⟩
theorem trn_neg : PR.Trn (fun b : Bool => b) mNeg := ⟨fun _ _ h => h, fun _ => by unfold mNeg; decide +kernel⟩
theorem trn_at {w : Bool} {q : Rat} (h : q ≠ 0) : PR.Trn (fun b : Bool => b) (mAt w q) := ⟨fun _ _ h => h, fun u => by
  unfold mAt
  split
  · exact h
  · decide +kernel⟩
section
variable {P : Program} {w : World} {K : PySem.W.Frag} {mg : Str → Option Value} {base : Heap}
def otherU (z : Str) : Str := if z = "beats" then "seconds" else "beats"
theorem other_uS (u : Bool) : otherU (uS u) = uS (!u) := by cases u <;> decide
def spOther : Sp := fun vs H Q _ => ∃ u : Bool, vs = [.str (uS u)] ∧ Q (.str (uS (!u))) H
theorem sc_other_unit : FnScope ["unit"] ["unit"] (defScope s_other_unit) := ⟨rfl, rfl, rfl, by decide +kernel, rfl, by decide +kernel, by decide +kernel⟩
theorem ok_other_unit (T : Tx K mg base) : Ok P w K mg base 4 (d_other_unit.loc K) ["unit"] spOther := by
  refine mk_ok (k := 3) T.f_other_unit sc_other_unit (fun _ _ _ _ _ _ us hl => match us, hl with | [_], _ => rfl) (fun vs H Q E h => ?_) (fun cdv A outer s H vs Q E hr h => ?_)
  · obtain ⟨u, rfl, _⟩ := h
    rfl
  · obtain ⟨u, rfl, k⟩ := h
    refine ⟨_, (pss_cons (ps_expr (ok_call (ok_need_unit T) (hr.mono (by decide)) rfl T.g_need_unit (passE rfl rfl rfl rfl) (pa_cons (pv 0) pa_nil)))
      (pss_one (ps_ret (pe_ifExp (pt_cmpR op_eq (pv 0) (pe_k T.c_BEATS) (nomark _)) (pe_k T.c_SECONDS) (pe_k T.c_BEATS))))), ?_⟩
    have hu : unitV (.str (uS u)) = true := by cases u <;> decide
    refine ⟨_, rfl, _, rfl, .str _, fun _ => ⟨_, rfl, rfl, _, rfl, ?_⟩, fun e => by rw [hu] at e; cases e⟩
    cases u with
    | true => exact iteT k
    | false => exact iteF k
/-- a sheet whose cues are all turned -/
def spTrn (K : PySem.W.Frag) (s : Bool → Bool) (m : Bool → Rat) : Sp := fun vs H Q E => ∃ v, vs = [v] ∧ ((∃ sh cs, v = .ref sh ∧ ShtOk K H sh cs ∧ (∀ c ∈ cs, SzB 1 (m c.2.2.1 * c.2.2.2)) ∧ ∀ p H', Same H H' → H p = none → ShtOk K H' p (trS s m cs) → Q (.ref p) H') ∨ (NoS K H v ∧ Rf K "InvalidSheet" "value" v H E))
theorem sc_exchanged : FnScope ["sheet", "name", "parent", "unit", "amount"] ["sheet"] (defScope s_exchanged) := ⟨rfl, rfl, rfl, by decide +kernel, rfl, by decide +kernel, by decide +kernel⟩
theorem ok_exchanged (T : Tx K mg base) : Ok P w K mg base 14 (d_exchanged.loc K) ["sheet"] (spTrn K (fun b => !b) mOne) := by
  refine mk_ok (k := 13) T.f_exchanged sc_exchanged (fun _ _ _ _ _ _ us hl => match us, hl with | [_], _ => rfl) (fun vs H Q E h => ?_) (fun cdv A outer s H vs Q E hr h => ?_)
  · obtain ⟨v, rfl, _⟩ := h
    rfl
  · obtain ⟨v, rfl, hc⟩ := h
    refine ⟨_, (pss_cons (ps_expr (ok_call (ok_need_sheet T) (hr.mono (by decide)) rfl T.g_need_sheet (passE rfl rfl rfl rfl) (pa_cons (pv 0) pa_nil)))
      (pss_one (ps_ret (ok_make T.mkr_Sheet (ok_Sheet_init_ T) (hr.mono (by decide)) rfl T.g_Sheet (passE rfl rfl rfl rfl) (pa_cons (pe_lc (own := [("name", 1), ("parent", 2), ("unit", 3), ("amount", 4)]) (g := (gTup K 4 (gCons (gName 1) (gCons (gName 2) (gCons (gName 3) (gCons (gName 4) gNil)))))) (tt := tYes) (by rfl) sc_exchanged.nd (pi_list (ok_meth0 T.cls_Sheet T.m_Sheet_cues (ok_Sheet_cues T) (hr.mono (by decide)) passL (pv 0) )) (blkOk_by (own := [("name", 1), ("parent", 2), ("unit", 3), ("amount", 4)]) (N := ["sheet", "name", "parent", "unit", "amount"]) (sc := defScope s_exchanged) (by decide +kernel)) (fun _ _ _ _ _ => (pg_tup rfl (pgs_cons (pg_name (i := 1) sc_exchanged.nd rfl (Or.inl rfl)) (pgs_cons (pg_name (i := 2) sc_exchanged.nd rfl (Or.inl rfl)) (pgs_cons (pg_name (i := 3) sc_exchanged.nd rfl (Or.inl rfl)) (pgs_cons (pg_name (i := 4) sc_exchanged.nd rfl (Or.inl rfl)) pgs_nil)))))) (fun _ _ _ _ _ => pts_nil) (fun _ _ _ _ _ => (pe_tup (pa_cons (pv 1) (pa_cons (pv 2) (pa_cons (ok_call (ok_other_unit T) (hr.mono (by decide)) rfl T.g_other_unit passL (pa_cons (pv 3) pa_nil)) (pa_cons (pv 4) pa_nil))))))) pa_nil))))), ?_⟩
    rcases hc with ⟨sh, cs, rfl, hs, hz, k⟩ | ⟨hn, kE⟩
    · refine ⟨_, rfl, _, rfl, .inl ⟨sh, cs, rfl, hs, ?_⟩⟩
      obtain ⟨dx, fs, dc, kvs, dr, kr, h1, h2, h3, hno, h4, h5, h6, h7⟩ := hs.at3
      have n1 : fs.lookup ("cues" : Str) = none := hno _ (by decide) (by decide) (by decide) (by decide)
      have hok := hs.2.1
      have hcl := hok.len
      have hsz : sizeLine = 16777216 := sizeLine_eq
      refine ⟨_, rfl, sh, dx, _, rfl, h1, n1, sh, cs, rfl, hs, fun D xs H1 s1 gD hD hx => ⟨D, rfl, ⟨_, SqL.of hD⟩, fun C gC => ?_⟩⟩
      have hxl := hx.length
      refine lc_list (K := K) (a := D) (xs := xs) (fun i H' => Same H1 H' ∧ ∃ ys, H' C = some (.lst ys) ∧ Paired (CuT K H') ys (trS (fun b => !b) mOne (cs.take i))) ⟨AT.Same.up gC, [], upd_same, .nil⟩ (fun i H' _ hP => SqL.of (hP.1 _ _ hD)) (fun i x H' hxi hP => ?_) (fun H' hP => ?_)
      · obtain ⟨sm, ys, hys, hy⟩ := hP
        obtain ⟨c, hc, t, p, rfl, ht, hp⟩ := prd_getL hx hxi
        have hcm := List.mem_of_getElem? hc
        have hyl := hy.length
        rw [List.length_map, List.length_take] at hyl
        have hp2 := hp.up sm
        have htk : trS (fun b => !b) mOne (cs.take (i + 1)) = trS (fun b => !b) mOne (cs.take i) ++ [PR.trC (fun b => !b) mOne c] := by
          rw [List.take_add_one, hc]
          exact List.map_append
        refine ⟨t, _, rfl, SqT.of (sm _ _ ht), rfl, _, _, rfl, _, _, rfl, _, _, rfl, _, _, rfl, rfl, rfl, ?_⟩
        dsimp only [tYes]
        refine iteT ⟨_, rfl, _, rfl, _, rfl, c.2.2.1, rfl, _, rfl, (by show 4 ≤ sizeLine; omega), fun t2 g2 => ⟨ys, (AT.Same.up g2) _ _ hys, (by omega), ?_⟩⟩
        have sA := AT.Same.up (o := .tup [.str c.1, .str c.2.1, .str (uS (!c.2.2.1)), .ref p]) g2
        have tu : TQ K (upd H' t2 (.tup [.str c.1, .str c.2.1, .str (uS (!c.2.2.1)), .ref p])) (upd (upd H' t2 (.tup [.str c.1, .str c.2.1, .str (uS (!c.2.2.1)), .ref p])) C (.lst (ys ++ [.ref t2]))) := TQ.up (sA _ _ hys) (fun _ z => nomatch z) (fun _ _ z => nomatch z)
        refine ⟨AT.Same.new (sm.trans sA) gC, _, upd_same, ?_⟩
        rw [htk]
        refine prd_app (Paired.mapP hy fun _ _ z => z.tq ((TQ.of sA).trans tu)) (.cons ⟨t2, p, rfl, tu.1 _ _ upd_same, ?_⟩ .nil)
        show IsQ K _ p (mOne c.2.2.1 * c.2.2.2)
        rw [show mOne c.2.2.1 * c.2.2.2 = c.2.2.2 from Rat.one_mul _]
        exact (hp2.up sA).tq tu
      · obtain ⟨sm, ys, hys, hy⟩ := hP
        rw [hxl, List.take_length] at hy
        have okt := tr_ok (s := fun b => !b) (m := mOne) hok hz
        have mt := tr_mom (cs := cs) trn_ex
        refine mk_sheetR (shIn_of hys hy (fun c hc => ⟨okt.name c hc, okt.size c hc⟩) (by rw [List.length_map]; exact hcl) (.inr ⟨okt.good, .inr ⟨by rw [mt]; exact hs.2.2, fun p H2 s2 g2 hs2 => ?_⟩⟩))
        have sa := s1.trans (sm.trans s2)
        exact k p H2 sa (none_of (s1.trans sm) g2) ⟨hs2, okt, by rw [mt]; exact hs.2.2⟩
    · exact ⟨_, rfl, _, rfl, .inr ⟨hn, kE⟩⟩
theorem sc_reversed_sheet : FnScope ["sheet", "name", "parent", "unit", "amount"] ["sheet"] (defScope s_reversed_sheet) := ⟨rfl, rfl, rfl, by decide +kernel, rfl, by decide +kernel, by decide +kernel⟩
theorem ok_reversed_sheet (T : Tx K mg base) : Ok P w K mg base 14 (d_reversed_sheet.loc K) ["sheet"] (spTrn K (fun b => b) mNeg) := by
  refine mk_ok (k := 13) T.f_reversed_sheet sc_reversed_sheet (fun _ _ _ _ _ _ us hl => match us, hl with | [_], _ => rfl) (fun vs H Q E h => ?_) (fun cdv A outer s H vs Q E hr h => ?_)
  · obtain ⟨v, rfl, _⟩ := h
    rfl
  · obtain ⟨v, rfl, hc⟩ := h
    refine ⟨_, (pss_cons (ps_expr (ok_call (ok_need_sheet T) (hr.mono (by decide)) rfl T.g_need_sheet (passE rfl rfl rfl rfl) (pa_cons (pv 0) pa_nil)))
      (pss_one (ps_ret (ok_make T.mkr_Sheet (ok_Sheet_init_ T) (hr.mono (by decide)) rfl T.g_Sheet (passE rfl rfl rfl rfl) (pa_cons (pe_lc (own := [("name", 1), ("parent", 2), ("unit", 3), ("amount", 4)]) (g := (gTup K 4 (gCons (gName 1) (gCons (gName 2) (gCons (gName 3) (gCons (gName 4) gNil)))))) (tt := tYes) (by rfl) sc_reversed_sheet.nd (pi_list (ok_meth0 T.cls_Sheet T.m_Sheet_cues (ok_Sheet_cues T) (hr.mono (by decide)) passL (pv 0) )) (blkOk_by (own := [("name", 1), ("parent", 2), ("unit", 3), ("amount", 4)]) (N := ["sheet", "name", "parent", "unit", "amount"]) (sc := defScope s_reversed_sheet) (by decide +kernel)) (fun _ _ _ _ _ => (pg_tup rfl (pgs_cons (pg_name (i := 1) sc_reversed_sheet.nd rfl (Or.inl rfl)) (pgs_cons (pg_name (i := 2) sc_reversed_sheet.nd rfl (Or.inl rfl)) (pgs_cons (pg_name (i := 3) sc_reversed_sheet.nd rfl (Or.inl rfl)) (pgs_cons (pg_name (i := 4) sc_reversed_sheet.nd rfl (Or.inl rfl)) pgs_nil)))))) (fun _ _ _ _ _ => pts_nil) (fun _ _ _ _ _ => (pe_tup (pa_cons (pv 1) (pa_cons (pv 2) (pa_cons (pv 3) (pa_cons (pe_un (un_own T.m_Amount_neg_.at_ T.m_Amount_neg_.fn (ok_Amount_neg_ T) (hr.mono (by decide)) passL) (pv 4)) pa_nil))))))) pa_nil))))), ?_⟩
    rcases hc with ⟨sh, cs, rfl, hs, hz, k⟩ | ⟨hn, kE⟩
    · refine ⟨_, rfl, _, rfl, .inl ⟨sh, cs, rfl, hs, ?_⟩⟩
      obtain ⟨dx, fs, dc, kvs, dr, kr, h1, h2, h3, hno, h4, h5, h6, h7⟩ := hs.at3
      have n1 : fs.lookup ("cues" : Str) = none := hno _ (by decide) (by decide) (by decide) (by decide)
      have hok := hs.2.1
      have hcl := hok.len
      have hsz : sizeLine = 16777216 := sizeLine_eq
      refine ⟨_, rfl, sh, dx, _, rfl, h1, n1, sh, cs, rfl, hs, fun D xs H1 s1 gD hD hx => ⟨D, rfl, ⟨_, SqL.of hD⟩, fun C gC => ?_⟩⟩
      have hxl := hx.length
      refine lc_list (K := K) (a := D) (xs := xs) (fun i H' => Same H1 H' ∧ ∃ ys, H' C = some (.lst ys) ∧ Paired (CuT K H') ys (trS (fun b => b) mNeg (cs.take i))) ⟨AT.Same.up gC, [], upd_same, .nil⟩ (fun i H' _ hP => SqL.of (hP.1 _ _ hD)) (fun i x H' hxi hP => ?_) (fun H' hP => ?_)
      · obtain ⟨sm, ys, hys, hy⟩ := hP
        obtain ⟨c, hc, t, p, rfl, ht, hp⟩ := prd_getL hx hxi
        have hcm := List.mem_of_getElem? hc
        have hyl := hy.length
        rw [List.length_map, List.length_take] at hyl
        have hp2 := hp.up sm
        have htk : trS (fun b => b) mNeg (cs.take (i + 1)) = trS (fun b => b) mNeg (cs.take i) ++ [PR.trC (fun b => b) mNeg c] := by
          rw [List.take_add_one, hc]
          exact List.map_append
        refine ⟨t, _, rfl, SqT.of (sm _ _ ht), rfl, _, _, rfl, _, _, rfl, _, _, rfl, _, _, rfl, rfl, rfl, ?_⟩
        dsimp only [tYes]
        obtain ⟨dp, ep⟩ := id hp2
        refine iteT ⟨_, rfl, _, rfl, _, rfl, _, rfl, p, dp, _, rfl, ep, p, _, rfl, hp2, (hok.size c hcm).1.mono (by decide), fun q H2 s2 gq hq => ⟨(by show 4 ≤ sizeLine; omega), fun t2 g2 => ⟨ys, (AT.Same.up g2) _ _ (s2 _ _ hys), (by omega), ?_⟩⟩⟩
        have sA := AT.Same.up (o := .tup [.str c.1, .str c.2.1, .str (uS c.2.2.1), .ref q]) g2
        have sB := s2.trans sA
        have tu : TQ K (upd H2 t2 (.tup [.str c.1, .str c.2.1, .str (uS c.2.2.1), .ref q])) (upd (upd H2 t2 (.tup [.str c.1, .str c.2.1, .str (uS c.2.2.1), .ref q])) C (.lst (ys ++ [.ref t2]))) := TQ.up (sB _ _ hys) (fun _ z => nomatch z) (fun _ _ z => nomatch z)
        refine ⟨AT.Same.new (sm.trans sB) gC, _, upd_same, ?_⟩
        rw [htk]
        refine prd_app (Paired.mapP hy fun _ _ z => z.tq ((TQ.of sB).trans tu)) (.cons ⟨t2, q, rfl, tu.1 _ _ upd_same, ?_⟩ .nil)
        show IsQ K _ q (mNeg c.2.2.1 * c.2.2.2)
        rw [show mNeg c.2.2.1 * c.2.2.2 = -c.2.2.2 by unfold mNeg; grind]
        exact (hq.up sA).tq tu
      · obtain ⟨sm, ys, hys, hy⟩ := hP
        rw [hxl, List.take_length] at hy
        have okt := tr_ok (s := fun b => b) (m := mNeg) hok hz
        have mt := tr_mom (cs := cs) trn_neg
        refine mk_sheetR (shIn_of hys hy (fun c hc => ⟨okt.name c hc, okt.size c hc⟩) (by rw [List.length_map]; exact hcl) (.inr ⟨okt.good, .inr ⟨by rw [mt]; exact hs.2.2, fun p H2 s2 g2 hs2 => ?_⟩⟩))
        have sa := s1.trans (sm.trans s2)
        exact k p H2 sa (none_of (s1.trans sm) g2) ⟨hs2, okt, by rw [mt]; exact hs.2.2⟩
    · exact ⟨_, rfl, _, rfl, .inr ⟨hn, kE⟩⟩
end
end K34

set_option maxHeartbeats 4000000
namespace K34
open PySem PySem.Spec PyProof.Rows L2 AT
theorem npos {q : Rat} (h : 0 < q) : 0 < q.num := by
  have := Rat.num_nonneg (q := q)
  have := Rat.num_eq_zero (q := q)
  grind
theorem nnonpos {q : Rat} (h : q ≤ 0) : q.num ≤ 0 := by
  have := Rat.num_nonneg (q := q)
  have := Rat.num_eq_zero (q := q)
  grind
theorem ne_of {q : Rat} (h : 0 < q) : q ≠ 0 := by grind
theorem qv_inj {K : PySem.W.Frag} {H : Hp} {v : V} {p q : Rat} (h : Qv K H v p) (g : Qv K H v q) : p = q := by
  cases h with
  | obj h => cases g with
    | obj g => exact h.inj g
  | int i => cases g with
    | int i => rfl
section
variable {P : Program} {w : World} {K : PySem.W.Frag} {mg : Str → Option Value} {base : Heap}
theorem qv_ty (T : Tx K mg base) {H : Hp} {v : V} {q : Rat} (h : Qv K H v q) : ∃ t, TyX K H v t ∧ (t = .ref (cA K) ∨ ∃ T, t = .type T ∧ T ∈ tyNames) := by
  cases h with
  | obj h =>
    obtain ⟨d, h⟩ := h
    exact ⟨_, T.ins_Amount h, .inl rfl⟩
  | int i => exact ⟨_, .base (.int i), .inr ⟨_, rfl, by decide⟩⟩
/-- a factor above 0, or none -/
def spNdF (K : PySem.W.Frag) : Sp := fun vs H Q E => ∃ v, vs = [v] ∧ AnyV K H v ∧ ((∃ q, Qv K H v q ∧ 0 < q ∧ ∀ H', Same H H' → Q .non H') ∨ (((wholeV v = false ∧ ¬ isA K H v) ∨ ∃ q, Qv K H v q ∧ q ≤ 0) ∧ Rf K "InvalidAmount" "value" v H E))
theorem sc_need_factor : FnScope ["by"] ["by"] (defScope s_need_factor) := ⟨rfl, rfl, rfl, by decide +kernel, rfl, by decide +kernel, by decide +kernel⟩
theorem ok_need_factor (T : Tx K mg base) : Ok P w K mg base 6 (d_need_factor.loc K) ["by"] (spNdF K) := by
  refine mk_ok (k := 5) T.f_need_factor sc_need_factor (fun _ _ _ _ _ _ us hl => match us, hl with | [_], _ => rfl) (fun vs H Q E h => ?_) (fun cdv A outer s H vs Q E hr h => ?_)
  · obtain ⟨v, rfl, _⟩ := h
    rfl
  · obtain ⟨v, rfl, hv, hc⟩ := h
    refine ⟨_, (pss_one (ps_if (PW.pt (pw_or (pt_not (pt_val (ok_call (ok_is_amount T) (hr.mono (by decide)) rfl T.g_is_amount passL (pa_cons (pv 0) pa_nil)))) (pw_or1 (pt_cmpR op_le (ok_prop T.cls_Amount T.pr_Amount_top (ok_Amount_top T) (hr.mono (by decide)) (ok_call (ok_amount_from T) (hr.mono (by decide)) rfl T.g_amount_from (passE rfl rfl rfl rfl) (pa_cons (pv 0) pa_nil))) pe_int (nomark _))))) (pss_one (ps_rs rfl (mx_InvalidAmount T (hr.mono (by decide))) (takes_of rfl rfl rfl rfl) rfl (pv 0))) pss_nil)), ?_⟩
    refine ⟨_, rfl, v, rfl, hv, fun hA => ?_, fun hA => ?_⟩
    · obtain ⟨q, hq⟩ := id hA
      refine ⟨_, rfl, iteF ⟨_, rfl, v, rfl, hv, .inl ⟨q, hq, fun p H1 s1 hp => ?_⟩⟩⟩
      obtain ⟨dx, ep⟩ := id hp
      refine ⟨p, dx, _, rfl, ep, p, q, rfl, hp, _, _, rfl, rfl, _, rfl, ?_⟩
      have hcase : (0 < q ∧ ∀ H', Same H H' → Q .non H') ∨ (q ≤ 0 ∧ Rf K "InvalidAmount" "value" v H E) := by
        rcases hc with ⟨q2, hq2, h0, k⟩ | ⟨⟨_, hn⟩ | ⟨q2, hq2, h0⟩, k⟩
        · rw [qv_inj hq hq2]; exact .inl ⟨h0, k⟩
        · exact absurd hA hn
        · rw [qv_inj hq hq2]; exact .inr ⟨h0, k⟩
      rcases hcase with ⟨h0, k⟩ | ⟨h0, k⟩
      · rw [decide_eq_false (show ¬ q.num ≤ 0 by have := npos h0; omega)]
        exact iteF (k _ s1)
      · rw [decide_eq_true (show q.num ≤ 0 by have := nnonpos h0; omega)]
        exact iteT ⟨_, rfl, mk_at T.xc_InvalidAmount.oex T.xc_InvalidAmount.no (rf_of (k.up s1))⟩
    · refine ⟨_, rfl, iteT (iteT ?_)⟩
      rcases hc with ⟨q2, hq2, h0, k⟩ | ⟨_, k⟩
      · exact absurd ⟨q2, hq2⟩ hA
      · exact ⟨_, rfl, mk_at T.xc_InvalidAmount.oex T.xc_InvalidAmount.no (rf_of k)⟩
def spStr (K : PySem.W.Frag) : Sp := fun vs H Q E => ∃ v u b, vs = [v, u, b] ∧ ((NoS K H v ∧ Rf K "InvalidSheet" "value" v H E) ∨ ∃ sh cs, v = .ref sh ∧ ShtOk K H sh cs ∧ AnyV K H u ∧
  ((unitV u = false ∧ Rf K "InvalidUnit" "value" u H E) ∨ ∃ w, u = .str (uS w) ∧ AnyV K H b ∧
  ((((wholeV b = false ∧ ¬ isA K H b) ∨ ∃ q, Qv K H b q ∧ q ≤ 0) ∧ Rf K "InvalidAmount" "value" b H E) ∨ ∃ q, Qv K H b q ∧ 0 < q ∧ Bits 1000 q ∧ (∀ c ∈ cs, SzB 1 (mAt w q c.2.2.1 * c.2.2.2)) ∧
    ∀ p H', Same H H' → H p = none → ShtOk K H' p (trS (fun b => b) (mAt w q) cs) → Q (.ref p) H')))
theorem sc_stretched : FnScope ["sheet", "unit", "by", "cue"] ["sheet", "unit", "by"] (defScope s_stretched) := ⟨rfl, rfl, rfl, by decide +kernel, rfl, by decide +kernel, by decide +kernel⟩
theorem ok_stretched (T : Tx K mg base) : Ok P w K mg base 14 (d_stretched.loc K) ["sheet", "unit", "by"] (spStr K) := by
  refine mk_ok (k := 13) T.f_stretched sc_stretched (fun _ _ _ _ _ _ us hl => match us, hl with | [_, _, _], _ => rfl) (fun vs H Q E h => ?_) (fun cdv A outer s H vs Q E hr h => ?_)
  · obtain ⟨v, u, b, rfl, _⟩ := h
    rfl
  · obtain ⟨v, u, b, rfl, hc⟩ := h
    refine ⟨_, (pss_cons (ps_expr (ok_call (ok_need_sheet T) (hr.mono (by decide)) rfl T.g_need_sheet (passE rfl rfl rfl rfl) (pa_cons (pv 0) pa_nil)))
      (pss_cons (ps_expr (ok_call (ok_need_unit T) (hr.mono (by decide)) rfl T.g_need_unit (passE rfl rfl rfl rfl) (pa_cons (pv 1) pa_nil)))
      (pss_cons (ps_expr (ok_call (ok_need_factor T) (hr.mono (by decide)) rfl T.g_need_factor (passE rfl rfl rfl rfl) (pa_cons (pv 2) pa_nil)))
      (pss_one (ps_ret (ok_make T.mkr_Sheet (ok_Sheet_init_ T) (hr.mono (by decide)) rfl T.g_Sheet (passE rfl rfl rfl rfl) (pa_cons (pe_lc (own := [("cue", 3)]) (g := (gName 3)) (tt := tYes) (by rfl) sc_stretched.nd (pi_list (ok_meth0 T.cls_Sheet T.m_Sheet_cues (ok_Sheet_cues T) (hr.mono (by decide)) passL (pv 0) )) (blkOk_by (own := [("cue", 3)]) (N := ["sheet", "unit", "by", "cue"]) (sc := defScope s_stretched) (by decide +kernel)) (fun _ _ _ _ _ => (pg_name (i := 3) sc_stretched.nd rfl (Or.inl rfl))) (fun _ _ _ _ _ => pts_nil) (fun _ _ _ _ _ => (pe_tup (show PA _ _ (StX.tStar K _ _) from StX.pa_star (pe_slice (show SlR _ (rSlA K) from sl_tupA) (pv 3) po_none (po_some pe_int)) (pa_cons (pe_ifExp (pt_cmpR op_eq (pe_ix (show IxR _ (rIxT K) from ix_tup) (pv 3) pe_int (fun _ _ => rfl)) (pv 1) (nomark _)) (pe_op (show OpR _ _ (rOwn K _ _ _) from (op_own T.op_Amount_mul (ok_Amount_mul_ T) (hr.mono (by decide)) passL)) (pe_ix (show IxR _ (rIxT K) from ix_tup) (pv 3) pe_int (fun _ _ => rfl)) (pv 2)) (pe_ix (show IxR _ (rIxT K) from ix_tup) (pv 3) pe_int (fun _ _ => rfl))) pa_nil))))) pa_nil))))))), ?_⟩
    rcases hc with ⟨hn, kE⟩ | ⟨sh, cs, rfl, hs, hu, hc⟩
    · exact ⟨_, rfl, _, rfl, .inr ⟨hn, kE⟩⟩
    refine ⟨_, rfl, _, rfl, .inl ⟨sh, cs, rfl, hs, ?_⟩⟩
    rcases hc with ⟨hu0, kE⟩ | ⟨w0, rfl, hbv, hc⟩
    · exact ⟨_, rfl, u, rfl, hu, (fun e => by rw [hu0] at e; cases e), fun _ => kE⟩
    have hu1 : unitV (.str (uS w0)) = true := by cases w0 <;> decide
    refine ⟨_, rfl, _, rfl, hu, (fun _ => ?_), fun e => by rw [hu1] at e; cases e⟩
    rcases hc with ⟨hc, kE⟩ | ⟨q, hb, h0, hbq, hz, k⟩
    · exact ⟨_, rfl, b, rfl, hbv, .inr ⟨hc, kE⟩⟩
    · refine ⟨_, rfl, b, rfl, hbv, .inl ⟨q, hb, h0, fun Hn sn => ?_⟩⟩
      have hs := hs.up sn
      have hb := hb.up sn
      have k : ∀ p H', Same Hn H' → Hn p = none → ShtOk K H' p (trS (fun b => b) (mAt w0 q) cs) → Q (.ref p) H' := fun p H' s g hh => k p H' (sn.trans s) (none_of sn g) hh
      obtain ⟨dx, fs, dc, kvs, dr, kr, h1, h2, h3, hno, h4, h5, h6, h7⟩ := hs.at3
      have n1 : fs.lookup ("cues" : Str) = none := hno _ (by decide) (by decide) (by decide) (by decide)
      have hok := hs.2.1
      have hcl := hok.len
      have hsz : sizeLine = 16777216 := sizeLine_eq
      refine ⟨_, rfl, sh, dx, _, rfl, h1, n1, sh, cs, rfl, hs, fun D xs H1 s1 gD hD hx => ⟨D, rfl, ⟨_, SqL.of hD⟩, fun C gC => ?_⟩⟩
      have hxl := hx.length
      refine lc_list (K := K) (a := D) (xs := xs) (fun i H' => Same H1 H' ∧ ∃ ys, H' C = some (.lst ys) ∧ Paired (CuT K H') ys (trS (fun b => b) (mAt w0 q) (cs.take i))) ⟨AT.Same.up gC, [], upd_same, .nil⟩ (fun i H' _ hP => SqL.of (hP.1 _ _ hD)) (fun i x H' hxi hP => ?_) (fun H' hP => ?_)
      · obtain ⟨sm, ys, hys, hy⟩ := hP
        obtain ⟨c, hc, t, p, rfl, ht, hp⟩ := prd_getL hx hxi
        have hcm := List.mem_of_getElem? hc
        have hyl := hy.length
        rw [List.length_map, List.length_take] at hyl
        have hp2 := hp.up sm
        have htk : trS (fun b => b) (mAt w0 q) (cs.take (i + 1)) = trS (fun b => b) (mAt w0 q) (cs.take i) ++ [PR.trC (fun b => b) (mAt w0 q) c] := by
          rw [List.take_add_one, hc]
          exact List.map_append
        have pref : cutV [V.str c.1, V.str c.2.1, V.str (uS c.2.2.1), V.ref p] none (some 3) = [V.str c.1, V.str c.2.1, V.str (uS c.2.2.1)] := rfl
        have fin : ∀ (r : Addr) (H2 : Hp) (t0 : Addr), Same H' H2 → IsQ K H2 r (mAt w0 q c.2.2.1 * c.2.2.2) → ∀ t2, H2 t2 = none → ∃ acc, upd H2 t2 (.tup [.str c.1, .str c.2.1, .str (uS c.2.2.1), .ref r]) C = some (.lst acc) ∧ acc.length < sizeLine ∧ Same H1 (upd (upd H2 t2 (.tup [.str c.1, .str c.2.1, .str (uS c.2.2.1), .ref r])) C (.lst (acc ++ [.ref t2]))) ∧ ∃ ys, upd (upd H2 t2 (.tup [.str c.1, .str c.2.1, .str (uS c.2.2.1), .ref r])) C (.lst (acc ++ [.ref t2])) C = some (.lst ys) ∧ Paired (CuT K (upd (upd H2 t2 (.tup [.str c.1, .str c.2.1, .str (uS c.2.2.1), .ref r])) C (.lst (acc ++ [.ref t2])))) ys (trS (fun b => b) (mAt w0 q) (cs.take (i + 1))) := fun r H2 t0 s2 hr t2 g2 => by
          have sA := AT.Same.up (o := .tup [.str c.1, .str c.2.1, .str (uS c.2.2.1), .ref r]) g2
          have sB := s2.trans sA
          have tu : TQ K (upd H2 t2 (.tup [.str c.1, .str c.2.1, .str (uS c.2.2.1), .ref r])) (upd (upd H2 t2 (.tup [.str c.1, .str c.2.1, .str (uS c.2.2.1), .ref r])) C (.lst (ys ++ [.ref t2]))) := TQ.up (sB _ _ hys) (fun _ z => nomatch z) (fun _ _ z => nomatch z)
          refine ⟨ys, sB _ _ hys, by omega, AT.Same.new (sm.trans sB) gC, _, upd_same, ?_⟩
          rw [htk]
          exact prd_app (Paired.mapP hy fun _ _ z => z.tq ((TQ.of sB).trans tu)) (.cons ⟨t2, r, rfl, tu.1 _ _ upd_same, (hr.up sA).tq tu⟩ .nil)
        have ht' := sm _ _ ht
        refine ⟨rfl, ?_⟩
        dsimp only [tYes]
        refine iteT ⟨_, rfl, _, rfl, t, _, rfl, SqT.of ht', fun z => absurd z.2 (fun h => by have h2 : (3 : Nat) = 4 := h; omega), fun _ t0 gt0 => ⟨t0, _, rfl, .inl (SqT.of upd_same), ?_⟩⟩
        have s0 := AT.Same.up (o := .tup (cutV [V.str c.1, V.str c.2.1, V.str (uS c.2.2.1), V.ref p] none (some 3))) gt0
        have ht0 := s0 _ _ ht'
        have hp0 := hp2.up s0
        refine ⟨_, rfl, t, _, 2, _, rfl, rfl, SqT.of ht0, rfl, _, rfl, rfl, _, rfl, ?_⟩
        by_cases hu : c.2.2.1 = w0
        · rw [decide_eq_true (by rw [hu])]
          obtain ⟨dp, ep⟩ := id hp0
          have hb0 := (hb.up s1).up (sm.trans s0)
          have e : mAt w0 q c.2.2.1 * c.2.2.2 = c.2.2.2 * q := by unfold mAt; rw [if_pos hu]; grind
          obtain ⟨ty, hty, hty2⟩ := qv_ty T hb0
          refine iteT ⟨_, rfl, t, _, 3, _, rfl, rfl, SqT.of ht0, rfl, _, rfl, p, dp, _, ty, rfl, ep, hty, hty2, p, b, c.2.2.2, rfl, hp0, (hok.size c hcm).1.mono (by decide), hb0.any, .inl ⟨q, hb0, hbq.mono (by decide), fun r H2 s2 gr hr => ⟨(by show 4 ≤ sizeLine; omega), fun t2 g2 => fin r H2 t0 (s0.trans s2) (by rw [e]; exact hr) t2 g2⟩⟩⟩
        · rw [decide_eq_false (fun z => hu (uS_inj (V.str.inj z)))]
          have e : mAt w0 q c.2.2.1 * c.2.2.2 = c.2.2.2 := by unfold mAt; rw [if_neg hu]; exact Rat.one_mul _
          refine iteF ⟨_, rfl, t, _, 3, _, rfl, rfl, SqT.of ht0, rfl, (by show 4 ≤ sizeLine; omega), fun t2 g2 => fin p _ t0 s0 (by rw [e]; exact hp0) t2 g2⟩
      · obtain ⟨sm, ys, hys, hy⟩ := hP
        rw [hxl, List.take_length] at hy
        have okt := tr_ok (s := fun b => b) (m := (mAt w0 q)) hok hz
        have mt := tr_mom (cs := cs) (trn_at (w := w0) (ne_of h0))
        refine mk_sheetR (shIn_of hys hy (fun c hc => ⟨okt.name c hc, okt.size c hc⟩) (by rw [List.length_map]; exact hcl) (.inr ⟨okt.good, .inr ⟨by rw [mt]; exact hs.2.2, fun p H2 s2 g2 hs2 => ?_⟩⟩))
        have sa := s1.trans (sm.trans s2)
        exact k p H2 sa (none_of (s1.trans sm) g2) ⟨hs2, okt, by rw [mt]; exact hs.2.2⟩
end
end K34

set_option maxHeartbeats 4000000
namespace K34
open PySem PySem.Spec PyProof.Rows L2 AT
section
variable {P : Program} {w : World} {K : PySem.W.Frag} {mg : Str → Option Value} {base : Heap}
/-! ### sheets compared by names and rows -/
theorem mem_cmp {H : Hp} {v v' : V} {m n : Bool × Rat} (h : MbT K H v m) (g : MbT K H v' n) : CTuH (CMs K) v v' H (decide (m = n)) := by
  obtain ⟨t, p, rfl, ht, hp⟩ := h
  obtain ⟨t', p', rfl, ht', hp'⟩ := g
  obtain ⟨d1, e1⟩ := id hp
  obtain ⟨d2, e2⟩ := id hp'
  refine ⟨t, t', _, _, fun i => if i = 0 then decide (uS m.1 = uS n.1) else decide (m.2 = n.2), rfl, rfl, ht, ht', fun i a b h1 h2 => ?_, ?_⟩
  · match i, h1, h2 with
    | 0, h1, h2 =>
      cases h1
      cases h2
      exact .inl ⟨_, _, rfl, rfl, rfl⟩
    | 1, h1, h2 =>
      cases h1
      cases h2
      exact .inr ⟨p, p', d1, d2, _, _, rfl, rfl, e1, e2, m.2, n.2, hp, hp', rfl⟩
    | i + 2, h1, h2 => simp at h1
  · obtain ⟨u, q⟩ := m
    obtain ⟨u', q'⟩ := n
    have eu : decide (uS u = uS u') = decide (u = u') := by cases u <;> cases u' <;> decide
    show decide ((u, q) = (u', q')) = ((List.range 2).all _ && true)
    rw [show List.range 2 = [0, 1] from rfl]
    simp only [List.all_cons, List.all_nil, Bool.and_true, if_true, eu]
    rw [Bool.eq_iff_iff]
    simp
theorem row_cmp {H : Hp} {D D' : Addr} {r r' : Row} (h : RwT K H D r) (g : RwT K H D' r') : CLst (CTuH (CMs K)) (.ref D) (.ref D') H (decide (r = r')) := by
  obtain ⟨xs, h1, h2⟩ := h
  obtain ⟨ys, g1, g2⟩ := g
  have l1 := h2.length
  have l2 := g2.length
  refine ⟨D, D', xs, ys, rfl, rfl, h1, g1, ?_⟩
  by_cases hl : xs.length = ys.length
  · refine .inr ⟨fun i => decide (r[i]? = r'[i]?), hl, fun i x y hx hy => ?_, ?_⟩
    · obtain ⟨m, hm, hmb⟩ := prd_getL h2 hx
      obtain ⟨n, hn, hnb⟩ := prd_getL g2 hy
      have e : decide (r[i]? = r'[i]?) = decide (m = n) := by rw [hm, hn]; simp
      show CTuH (CMs K) x y H (decide (r[i]? = r'[i]?))
      rw [e]
      exact mem_cmp hmb hnb
    · rw [Bool.eq_iff_iff, List.all_eq_true, decide_eq_true_eq]
      constructor
      · rintro rfl i _
        exact decide_eq_true rfl
      · intro z
        refine List.ext_getElem? fun i => ?_
        by_cases hi : i < xs.length
        · exact of_decide_eq_true (z i (List.mem_range.mpr hi))
        · rw [List.getElem?_eq_none (by omega), List.getElem?_eq_none (by omega)]
  · exact .inl ⟨hl, decide_eq_false fun z => hl (by rw [l1, l2, z])⟩
def unlS (cs ds : List Cue) : List Str := ((cs.map (·.1)).filter fun n => decide (n ∉ nmS ds) || decide (PR.rowOf (PR.rowsF ("start" : Str) cs) n ≠ PR.rowOf (PR.rowsF ("start" : Str) ds) n)) ++ (ds.map (·.1)).filter fun n => decide (n ∉ nmS cs)
def spUnl (K : PySem.W.Frag) : Sp := fun vs H Q E => ∃ v u, vs = [v, u] ∧ ((NoS K H v ∧ Rf K "InvalidSheet" "value" v H E) ∨ ∃ s cs, v = .ref s ∧ ShtOk K H s cs ∧
  ((NoS K H u ∧ Rf K "InvalidSheet" "value" u H E) ∨ ∃ t ds, u = .ref t ∧ ShtOk K H t ds ∧ ∀ F H', Same H H' → H F = none → H' F = some (.lst ((unlS cs ds).map V.str)) → Q (.ref F) H'))
theorem sc_unlike : FnScope ["one", "other", "name", "found"] ["one", "other"] (defScope s_unlike) := ⟨rfl, rfl, rfl, by decide +kernel, rfl, by decide +kernel, by decide +kernel⟩
theorem ok_unlike (T : Tx K mg base) : Ok P w K mg base 14 (d_unlike.loc K) ["one", "other"] (spUnl K) := by
  refine mk_ok (k := 13) T.f_unlike sc_unlike (fun _ _ _ _ _ _ us hl => match us, hl with | [_, _], _ => rfl) (fun vs H Q E h => ?_) (fun cdv A outer s H vs Q E hr h => ?_)
  · obtain ⟨v, u, rfl, _⟩ := h
    rfl
  · obtain ⟨v, u, rfl, hc⟩ := h
    refine ⟨_, (pss_cons (ps_expr (ok_call (ok_need_sheet T) (hr.mono (by decide)) rfl T.g_need_sheet (passE rfl rfl rfl rfl) (pa_cons (pv 0) pa_nil)))
      (pss_cons (ps_expr (ok_call (ok_need_sheet T) (hr.mono (by decide)) rfl T.g_need_sheet (passE rfl rfl rfl rfl) (pa_cons (pv 1) pa_nil)))
      (pss_cons (ps_setLc (i := 3) (own := [("name", 2)]) (g := (gName 2)) (by rfl) sc_unlike.nd rfl rfl (sw_true rfl rfl rfl (by decide +kernel)) (pi_list (ok_meth0 T.cls_Sheet T.m_Sheet_names (ok_Sheet_names T) (hr.mono (by decide)) passL (pv 0) )) (blkOk_by (own := [("name", 2)]) (N := ["one", "other", "name", "found"]) (sc := defScope s_unlike) (by decide +kernel)) (fun _ _ _ _ _ => (pg_name (i := 2) sc_unlike.nd rfl (Or.inl rfl))) (fun _ _ _ _ _ => (pts_one (PW.pt (pw_or (pt_cmpR (op_notInO T.m_Sheet_contains_ (ok_Sheet_contains_ T) (hr.mono (by decide)) passL) (pv 2) (pv 1) (by rfl)) (pw_or1 (pt_cmpR (show OpR _ _ (rNeBb (CTuH (CMs K))) from op_neBb (eqB_cue T) (hr.mono (by decide))) (ok_meth T.cls_Sheet T.m_Sheet_row (ok_Sheet_row T) (hr.mono (by decide)) passL (pv 0) (pa_cons (pv 2) pa_nil)) (ok_meth T.cls_Sheet T.m_Sheet_row (ok_Sheet_row T) (hr.mono (by decide)) passL (pv 1) (pa_cons (pv 2) pa_nil)) (nomark _))))))) (fun _ _ _ _ _ => (pv 2)))
      (pss_one (ps_ret (pe_op op_cat (pv 3) (pe_lc (own := [("name", 2)]) (g := (gName 2)) (by rfl) sc_unlike.nd (pi_list (ok_meth0 T.cls_Sheet T.m_Sheet_names (ok_Sheet_names T) (hr.mono (by decide)) passL (pv 1) )) (blkOk_by (own := [("name", 2)]) (N := ["one", "other", "name", "found"]) (sc := defScope s_unlike) (by decide +kernel)) (fun _ _ _ _ _ => (pg_name (i := 2) sc_unlike.nd rfl (Or.inl rfl))) (fun _ _ _ _ _ => (pts_one (pt_cmpR (op_notInO T.m_Sheet_contains_ (ok_Sheet_contains_ T) (hr.mono (by decide)) passL) (pv 2) (pv 0) (by rfl)))) (fun _ _ _ _ _ => (pv 2))))))))), ?_⟩
    rcases hc with ⟨hn, kE⟩ | ⟨s, cs, rfl, hs, hc⟩
    · exact ⟨_, rfl, _, rfl, .inr ⟨hn, kE⟩⟩
    refine ⟨_, rfl, _, rfl, .inl ⟨s, cs, rfl, hs, ?_⟩⟩
    rcases hc with ⟨hn, kE⟩ | ⟨t, ds, rfl, ht, k⟩
    · exact ⟨_, rfl, _, rfl, .inr ⟨hn, kE⟩⟩
    refine ⟨_, rfl, _, rfl, .inl ⟨t, ds, rfl, ht, ?_⟩⟩
    have hsz : sizeLine = 16777216 := sizeLine_eq
    obtain ⟨dx, fs, lm, ms, dr, kvs, h1, h2, h3, hno, h4, h5, h6, h7⟩ := hs.at2
    obtain ⟨dx', fs', lm', ms', dr', kvs', h1', h2', h3', hno', h4', h5', h6', h7'⟩ := ht.at2
    have n1 : fs.lookup ("names" : Str) = none := hno _ (by decide) (by decide) (by decide) (by decide)
    have n2 : fs.lookup ("row" : Str) = none := hno _ (by decide) (by decide) (by decide) (by decide)
    have n1' : fs'.lookup ("names" : Str) = none := hno' _ (by decide) (by decide) (by decide) (by decide)
    have n2' : fs'.lookup ("row" : Str) = none := hno' _ (by decide) (by decide) (by decide) (by decide)
    have hcl := hs.2.1.len
    have hdl := ht.2.1.len
    refine ⟨_, rfl, s, dx, _, rfl, h1, n1, s, cs, rfl, hs, fun D H1 s1 gD hD => ⟨D, rfl, ⟨_, SqL.of hD⟩, fun C gC => ?_⟩⟩
    have ml : ((cs.map (·.1)).map V.str).length = cs.length := by rw [List.length_map, List.length_map]
    refine lc_list (K := K) (a := D) (xs := (cs.map (·.1)).map V.str) (fun i H' => Same H1 H' ∧ H' C = some (.lst ((((cs.map (·.1)).take i).filter fun n => decide (n ∉ nmS ds) || decide (rowN cs n ≠ rowN ds n)).map V.str))) ⟨AT.Same.up gC, upd_same⟩ (fun i H' _ hP => SqL.of (hP.1 _ _ hD)) (fun i x H' hxi hP => ?_) (fun H2 hP => ?_)
    · obtain ⟨sm, hC⟩ := hP
      rw [List.getElem?_map] at hxi
      obtain ⟨n, hn, rfl⟩ := Option.map_eq_some_iff.mp hxi
      have s1m := s1.trans sm
      have hns : n ∈ nmsS cs := List.mem_cons_of_mem _ (List.mem_of_getElem? hn)
      have ln : (((cs.map (·.1)).take i).filter fun n => decide (n ∉ nmS ds) || decide (rowN cs n ≠ rowN ds n)).length ≤ 30 := by
        refine Nat.le_trans (List.length_filter_le _ _) ?_
        rw [List.length_take, List.length_map]
        omega
      have yes : (decide (n ∉ nmS ds) || decide (rowN cs n ≠ rowN ds n)) = true → ∀ H4, Same H' H4 → ∃ acc, H4 C = some (.lst acc) ∧ acc.length < sizeLine ∧ Same H1 (upd H4 C (.lst (acc ++ [.str n]))) ∧ upd H4 C (.lst (acc ++ [.str n])) C = some (.lst ((((cs.map (·.1)).take (i + 1)).filter fun n => decide (n ∉ nmS ds) || decide (rowN cs n ≠ rowN ds n)).map V.str)) := fun e H4 s4 => by
        refine ⟨_, s4 _ _ hC, by rw [List.length_map]; omega, AT.Same.new (sm.trans s4) gC, ?_⟩
        rw [upd_same, List.take_add_one, hn, Option.toList_some, List.filter_append, List.filter_cons, if_pos e, List.map_append]
        rfl
      have no : (decide (n ∉ nmS ds) || decide (rowN cs n ≠ rowN ds n)) = false → ∀ H4, Same H' H4 → Same H1 H4 ∧ H4 C = some (.lst ((((cs.map (·.1)).take (i + 1)).filter fun n => decide (n ∉ nmS ds) || decide (rowN cs n ≠ rowN ds n)).map V.str)) := fun e H4 s4 => by
        refine ⟨sm.trans s4, ?_⟩
        rw [s4 _ _ hC, List.take_add_one, hn, Option.toList_some, List.filter_append, List.filter_cons, if_neg (by rw [e]; decide), List.filter_nil, List.append_nil]
      have hs' := hs.up s1m
      have ht' := ht.up s1m
      obtain ⟨ex, ef, elm, ems, er, ekv, e1, e2, e3, eno, e4, e5, e6, e7⟩ := ht'.at2
      have en : ef.lookup ("row" : Str) = none := eno _ (by decide) (by decide) (by decide) (by decide)
      refine ⟨rfl, ?_⟩
      refine ⟨_, rfl, _, rfl, t, ex, ef, rfl, e1, t, ex, ef, er, ekv, _, .str n, rfl, e1, e3, .inl e6, e7, .str n, _, rfl, _, rfl, ?_⟩
      rw [show inRw (PR.rowsF ("start" : Str) ds) (.str n) = decide (n ∈ nmsS ds) from inSh_str ds n]
      by_cases hd : n ∈ nmsS ds
      · rw [decide_eq_true hd]
        refine iteF ⟨_, rfl, s, dx, _, rfl, s1m _ _ h1, n2, _, rfl, s, cs, .str n, rfl, hs', .str n, .inr ⟨n, rfl, hns, fun D1 H3 s3 g3 hr1 => ⟨_, rfl, t, ex, _, rfl, s3 _ _ e1, en, _, rfl, t, ds, .str n, rfl, ht'.up s3, .str n, .inr ⟨n, rfl, hd, fun D2 H4 s4 g4 hr2 => ⟨_, row_cmp (hr1.up s4) hr2, _, rfl, ?_⟩⟩⟩⟩⟩
        have e0 : (decide (n ∉ nmS ds) || decide (rowN cs n ≠ rowN ds n)) = !decide (rowN cs n = rowN ds n) := by
          rw [decide_eq_false (p := n ∉ nmS ds) (fun z => z hd), Bool.false_or]
          by_cases q : rowN cs n = rowN ds n
          · rw [decide_eq_true q, decide_eq_false (fun z => z q)]; rfl
          · rw [decide_eq_false q, decide_eq_true q]; rfl
        have s34 := s3.trans s4
        cases hq : decide (rowN cs n = rowN ds n) with
        | true => exact iteF (no (by rw [e0, hq]; rfl) H4 s34)
        | false => exact iteT ⟨_, rfl, yes (by rw [e0, hq]; rfl) H4 s34⟩
      · rw [decide_eq_false hd]
        exact iteT (iteT ⟨_, rfl, yes (by rw [decide_eq_true (p := n ∉ nmS ds) hd]; rfl) H' (Same.refl _)⟩)
    · obtain ⟨sm, hC⟩ := hP
      rw [ml, List.take_of_length_le (by rw [List.length_map]; exact Nat.le_refl _)] at hC
      have s2 := s1.trans sm
      have ht2 := ht.up s2
      have hs2 := hs.up s2
      refine ⟨_, rfl, _, rfl, t, dx', _, rfl, s2 _ _ h1', n1', t, ds, rfl, ht2, fun D' H3 s3 gD' hD' => ⟨D', rfl, ⟨_, SqL.of hD'⟩, fun C' gC' => ?_⟩⟩
      have ml' : ((ds.map (·.1)).map V.str).length = ds.length := by rw [List.length_map, List.length_map]
      refine lc_list (K := K) (a := D') (xs := (ds.map (·.1)).map V.str) (fun i H' => Same H3 H' ∧ H' C' = some (.lst ((((ds.map (·.1)).take i).filter fun n => decide (n ∉ nmS cs)).map V.str))) ⟨AT.Same.up gC', upd_same⟩ (fun i H' _ hP => SqL.of (hP.1 _ _ hD')) (fun i x H' hxi hP => ?_) (fun H4 hP => ?_)
      · obtain ⟨sm', hC'⟩ := hP
        rw [List.getElem?_map] at hxi
        obtain ⟨n, hn, rfl⟩ := Option.map_eq_some_iff.mp hxi
        have s4 := s2.trans (s3.trans sm')
        obtain ⟨ex, ef, elm, ems, er, ekv, e1, e2, e3, eno, e4, e5, e6, e7⟩ := (hs.up s4).at2
        refine ⟨rfl, ?_⟩
        refine ⟨_, rfl, _, rfl, s, ex, ef, rfl, e1, s, ex, ef, er, ekv, _, .str n, rfl, e1, e3, .inl e6, e7, .str n, _, rfl, _, rfl, ?_⟩
        rw [show inRw (PR.rowsF ("start" : Str) cs) (.str n) = decide (n ∈ nmsS cs) from inSh_str cs n]
        by_cases hd : n ∈ nmsS cs
        · rw [decide_eq_true hd]
          refine iteF ⟨sm', ?_⟩
          rw [hC', List.take_add_one, hn, Option.toList_some, List.filter_append, List.filter_cons, if_neg (by rw [decide_eq_false (fun z => z hd)]; decide), List.filter_nil, List.append_nil]
        · rw [decide_eq_false hd]
          refine iteT ⟨_, rfl, _, hC', ?_, AT.Same.new sm' gC', ?_⟩
          · rw [List.length_map]
            have := List.length_filter_le (fun n => decide (n ∉ nmS cs)) ((ds.map (·.1)).take i)
            rw [List.length_take, List.length_map] at this
            omega
          · rw [upd_same, List.take_add_one, hn, Option.toList_some, List.filter_append, List.filter_cons, if_pos (decide_eq_true hd), List.map_append]
            rfl
      · obtain ⟨sm', hC'⟩ := hP
        rw [ml', List.take_of_length_le (by rw [List.length_map]; exact Nat.le_refl _)] at hC'
        have s34 := s3.trans sm'
        refine ⟨C, C', _, _, rfl, rfl, s34 _ _ hC, hC', ?_, fun F gF => ?_⟩
        · rw [List.length_map, List.length_map]
          have a1 := List.length_filter_le (fun n => decide (n ∉ nmS ds) || decide (rowN cs n ≠ rowN ds n)) (cs.map (·.1))
          have a2 := List.length_filter_le (fun n => decide (n ∉ nmS cs)) (ds.map (·.1))
          rw [List.length_map] at a1 a2
          omega
        · have sall := s2.trans s34
          refine k F _ (sall.trans (AT.Same.up gF)) (none_of sall gF) ?_
          rw [upd_same, ← List.map_append]
          rfl
def spAlk (K : PySem.W.Frag) : Sp := fun vs H Q E => ∃ s cs t ds, vs = [.ref s, .ref t] ∧ ShtOk K H s cs ∧ ShtOk K H t ds ∧ ∀ H', Same H H' → Q (.bl (unlS cs ds).isEmpty) H'
theorem sc_is_alike : FnScope ["one", "other"] ["one", "other"] (defScope s_is_alike) := ⟨rfl, rfl, rfl, by decide +kernel, rfl, by decide +kernel, by decide +kernel⟩
theorem ok_is_alike (T : Tx K mg base) : Ok P w K mg base 15 (d_is_alike.loc K) ["one", "other"] (spAlk K) := by
  refine mk_ok (k := 14) T.f_is_alike sc_is_alike (fun _ _ _ _ _ _ us hl => match us, hl with | [_, _], _ => rfl) (fun vs H Q E h => ?_) (fun cdv A outer s H vs Q E hr h => ?_)
  · obtain ⟨s, cs, t, ds, rfl, _⟩ := h
    rfl
  · obtain ⟨s, cs, t, ds, rfl, hs, ht, k⟩ := h
    refine ⟨_, (pss_one (ps_ret (pe_cmpR (show OpR _ _ (rEqE K) from op_eqE hr.units) (ok_call (ok_unlike T) (hr.mono (by decide)) rfl T.g_unlike (passE rfl rfl rfl rfl) (pa_cons (pv 0) (pa_cons (pv 1) pa_nil))) (pe_lst pa_nil) (nomark _)))), ?_⟩
    refine ⟨_, rfl, _, rfl, _, _, rfl, .inr ⟨s, cs, rfl, hs, .inr ⟨t, ds, rfl, ht, fun F H' s1 gF hF => ⟨Nat.zero_le _, fun e ge => ?_⟩⟩⟩⟩
    refine ⟨(unlS cs ds).map V.str, ⟨F, e, rfl, rfl, SqL.of ((AT.Same.up ge) _ _ hF), SqL.of upd_same⟩, ?_⟩
    have := k _ (s1.trans (AT.Same.up (o := .lst []) ge))
    cases hu : unlS cs ds with
    | nil => rw [hu] at this; exact this
    | cons a l => rw [hu] at this; exact this
end
end K34

set_option maxHeartbeats 4000000
namespace K34
open PySem PySem.Spec PyProof.Rows L2 AT
theorem nameS_len {z : Str} (h : isNameS z = true) : z.length ≤ 8 := by
  unfold isNameS at h
  simp only [Bool.and_eq_true, decide_eq_true_eq] at h
  omega
section
variable {P : Program} {w : World} {K : PySem.W.Frag} {mg : Str → Option Value} {base : Heap}
/-! ### sheets joined -/
/-- the names of the other sheet's cues behind their prefix -/
def atN (at_ pre : Str) (n : Str) : Str := if n = "start" then at_ else pre ++ n
def atC (at_ pre : Str) (c : Cue) : Cue := (pre ++ c.1, atN at_ pre c.2.1, c.2.2.1, c.2.2.2)
theorem pre_inj {p a b : Str} (h : p ++ a = p ++ b) : a = b := by
  have e := congrArg TL.tl h
  rw [TL.tl_append, TL.tl_append] at e
  exact TL.ext_tl (List.append_cancel_left e)
theorem att_good {cs : List Cue} {az pre : Str} (hc : PR.Good ("start" : Str) cs) (ha : az ∈ nmS cs) : ∀ {ds : List Cue}, PR.Good ("start" : Str) ds → (∀ d ∈ ds, pre ++ d.1 ∉ nmS cs) → PR.Good ("start" : Str) (cs ++ ds.map (atC az pre)) := by
  intro ds h
  induction h with
  | nil => intro _; rw [List.map_nil, List.append_nil]; exact hc
  | snoc h h1 h2 ih =>
    rename_i l c
    intro hf
    rw [List.map_append, List.map_singleton, ← List.append_assoc]
    have en : (cs ++ l.map (atC az pre)).map (·.1) = cs.map (·.1) ++ l.map fun d => pre ++ d.1 := by rw [List.map_append, List.map_map]; rfl
    have hfc := hf c (by simp)
    refine .snoc (ih fun d hd => hf d (List.mem_append_left _ hd)) ?_ ?_
    · rw [en]
      intro hm
      rcases List.mem_cons.mp hm with z | z
      · exact hfc (by rw [show pre ++ c.1 = "start" from z]; exact List.mem_cons_self)
      · rcases List.mem_append.mp z with z | z
        · exact hfc (List.mem_cons_of_mem _ z)
        · obtain ⟨d, hd, e⟩ := List.mem_map.mp z
          have e2 : d.1 = c.1 := pre_inj e
          exact h1 (List.mem_cons_of_mem _ (by rw [← e2]; exact List.mem_map_of_mem hd))
    · rw [en]
      show atN az pre c.2.1 ∈ _
      unfold atN
      split
      · rcases List.mem_cons.mp ha with z | z
        · rw [z]; exact List.mem_cons_self
        · exact List.mem_cons_of_mem _ (List.mem_append_left _ z)
      · rename_i ns
        rcases List.mem_cons.mp h2 with z | z
        · exact absurd z ns
        · obtain ⟨d, hd, e⟩ := List.mem_map.mp z
          refine List.mem_cons_of_mem _ (List.mem_append_right _ (List.mem_map.mpr ⟨d, hd, ?_⟩))
          rw [e]
theorem att_ok {cs ds : List Cue} {az pre : Str} (hc : CuesOk cs) (hd : CuesOk ds) (ha : az ∈ nmS cs) (hf : ∀ d ∈ ds, isNameS (pre ++ d.1) = true ∧ pre ++ d.1 ∉ nmS cs) (hl : cs.length + ds.length < 30) : CuesOk (cs ++ ds.map (atC az pre)) := by
  refine ⟨att_good hc.good ha hd.good fun d h => (hf d h).2, fun c h => ?_, fun c h => ?_, by rw [List.length_append, List.length_map]; exact hl⟩
  · rcases List.mem_append.mp h with h | h
    · exact hc.name c h
    · obtain ⟨d, hd, rfl⟩ := List.mem_map.mp h
      exact (hf d hd).1
  · rcases List.mem_append.mp h with h | h
    · exact hc.size c h
    · obtain ⟨d, hd2, rfl⟩ := List.mem_map.mp h
      exact hd.size d hd2
/-- the names as they are told anew -/
def MpV (az pre : Str) (ds : List Cue) (kvs : List (Key × V)) : Prop := ∀ n : Str, valV kvs (Sum.inr n) = if n ∈ nmS ds then some (.str (atN az pre n)) else none
theorem inV_str (y : Str) (l : List Str) : inV (.str y) (l.map V.str) = decide (y ∈ l) := by
  rw [Bool.eq_iff_iff, decide_eq_true_eq]
  unfold inV
  rw [List.any_map, List.any_eq_true]
  constructor
  · rintro ⟨z, hz, e⟩
    have e2 : z = y := by
      have : eqV (.str z) (.str y) = true := e
      unfold eqV at this
      simpa using this
    rwa [← e2]
  · intro h
    refine ⟨y, h, ?_⟩
    show eqV (.str y) (.str y) = true
    unfold eqV
    simp
theorem flat_strs (l : List Str) : (l.map V.str).all flatV = true := by
  rw [List.all_map, List.all_eq_true]
  intro z _
  rfl
/-- the first name that does not fit -/
def BadP (cs ds : List Cue) (pre : Str) (x f : Str) (v : V) : Prop := ∃ (i : Nat) (d : Cue), ds[i]? = some d ∧ (∀ j e, j < i → ds[j]? = some e → isNameS (pre ++ e.1) = true ∧ pre ++ e.1 ∉ nmS cs) ∧ v = .str (pre ++ d.1) ∧
  ((isNameS (pre ++ d.1) = false ∧ x = "InvalidName" ∧ f = "value") ∨ (isNameS (pre ++ d.1) = true ∧ pre ++ d.1 ∈ nmS cs ∧ x = "Duplicate" ∧ f = "label"))
def spAtt (K : PySem.W.Frag) : Sp := fun vs H Q E => ∃ v u a b, vs = [v, u, a, b] ∧ ((NoS K H v ∧ Rf K "InvalidSheet" "value" v H E) ∨ ∃ s cs, v = .ref s ∧ ShtOk K H s cs ∧
  ((NoS K H u ∧ Rf K "InvalidSheet" "value" u H E) ∨ ∃ t ds, u = .ref t ∧ ShtOk K H t ds ∧ AnyV K H a ∧
  ((inSh cs a = false ∧ Rf K "UnknownCue" "label" a H E) ∨ ∃ az, a = .str az ∧ az ∈ nmS cs ∧ AnyV K H b ∧ (∀ z, b = .str z → z.length ≤ 1000) ∧
  ((nameV b = false ∧ Rf K "InvalidName" "value" b H E) ∨ ∃ pre, b = .str pre ∧ isNameS pre = true ∧
  ((∃ x f v, BadP cs ds pre x f v ∧ Rf K x f v H E) ∨ ((∀ d ∈ ds, isNameS (pre ++ d.1) = true ∧ pre ++ d.1 ∉ nmS cs) ∧ cs.length + ds.length < 30 ∧
  ((8 < (momS (cs ++ ds.map (atC az pre))).length ∧ Rf K "TooMany" "most" (.int 8) H E) ∨ ((momS (cs ++ ds.map (atC az pre))).length ≤ 8 ∧
    ∀ p H', Same H H' → H p = none → ShtOk K H' p (cs ++ ds.map (atC az pre)) → Q (.ref p) H'))))))))
theorem sc_attached : FnScope ["sheet", "other", "at", "prefix", "names", "taken", "name", "new", "parent", "unit", "amount", "more"] ["sheet", "other", "at", "prefix"] (defScope s_attached) := ⟨rfl, rfl, rfl, by decide +kernel, rfl, by decide +kernel, by decide +kernel⟩
theorem ok_attached (T : Tx K mg base) : Ok P w K mg base 14 (d_attached.loc K) ["sheet", "other", "at", "prefix"] (spAtt K) := by
  refine mk_ok (k := 13) T.f_attached sc_attached (fun _ _ _ _ _ _ us hl => match us, hl with | [_, _, _, _], _ => rfl) (fun vs H Q E h => ?_) (fun cdv A outer s H vs Q E hr h => ?_)
  · obtain ⟨v, u, a, b, rfl, _⟩ := h
    rfl
  · obtain ⟨v, u, a, b, rfl, hc⟩ := h
    refine ⟨_, (pss_cons (ps_expr (ok_call (ok_need_sheet T) (hr.mono (by decide)) rfl T.g_need_sheet (passE rfl rfl rfl rfl) (pa_cons (pv 0) pa_nil)))
      (pss_cons (ps_expr (ok_call (ok_need_sheet T) (hr.mono (by decide)) rfl T.g_need_sheet (passE rfl rfl rfl rfl) (pa_cons (pv 1) pa_nil)))
      (pss_cons (ps_expr (ok_meth T.cls_Sheet T.m_Sheet_need (ok_Sheet_need T) (hr.mono (by decide)) (passE rfl rfl rfl rfl) (pv 0) (pa_cons (pv 2) pa_nil)))
      (pss_cons (ps_if (pt_not (pt_val (ok_call (ok_is_name T) (hr.mono (by decide)) rfl T.g_is_name passL (pa_cons (pv 3) pa_nil)))) (pss_one (ps_rs rfl (mx_InvalidName T (hr.mono (by decide))) (takes_of rfl rfl rfl rfl) rfl (pv 3))) pss_nil)
      (pss_cons (ps_set (i := 4) sc_attached.nd rfl (Or.inr rfl) (pe_disp (pps_cons (pe_k T.c_START) (pv 2) pps_nil) (by rfl) (by rfl) (fun z => by cases z) (by decide)))
      (pss_cons (ps_set (i := 5) sc_attached.nd rfl (Or.inl rfl) (pe_lst (pa_cons (pe_k T.c_START) (StX.pa_star (ok_meth0 T.cls_Sheet T.m_Sheet_names (ok_Sheet_names T) (hr.mono (by decide)) passL (pv 0) ) pa_nil))))
      (pss_cons (ps_for (passes_of rfl) rfl (pi_list (ok_meth0 T.cls_Sheet T.m_Sheet_names (ok_Sheet_names T) (hr.mono (by decide)) passL (pv 1) )) (pg_name (i := 6) sc_attached.nd rfl (Or.inl rfl)) (pss_cons (ps_set (i := 7) sc_attached.nd rfl (Or.inl rfl) (pe_op op_add_str (pv 3) (pv 6)))
      (pss_cons (ps_if (pt_not (pt_val (ok_call (ok_is_name T) (hr.mono (by decide)) rfl T.g_is_name passL (pa_cons (pv 7) pa_nil)))) (pss_one (ps_rs rfl (mx_InvalidName T (hr.mono (by decide))) (takes_of rfl rfl rfl rfl) rfl (pv 7))) pss_nil)
      (pss_cons (ps_if (pt_cmpR op_in_seq (pv 7) (pv 5) (by rfl)) (pss_one (ps_rs rfl (mx_Duplicate T (hr.mono (by decide))) (takes_of rfl rfl rfl rfl) rfl (pv 7))) pss_nil)
      (pss_one (ps_dput (by exact hu_of hr) (pv 4) (pv 6) (pv 7) rfl))))))
      (pss_cons (ps_setLc (i := 11) (own := [("name", 6), ("parent", 8), ("unit", 9), ("amount", 10)]) (g := (gTup K 4 (gCons (gName 6) (gCons (gName 8) (gCons (gName 9) (gCons (gName 10) gNil)))))) (tt := tYes) (by rfl) sc_attached.nd rfl rfl (sw_true rfl rfl rfl (by decide +kernel)) (pi_list (ok_meth0 T.cls_Sheet T.m_Sheet_cues (ok_Sheet_cues T) (hr.mono (by decide)) passL (pv 1) )) (blkOk_by (own := [("name", 6), ("parent", 8), ("unit", 9), ("amount", 10)]) (N := ["sheet", "other", "at", "prefix", "names", "taken", "name", "new", "parent", "unit", "amount", "more"]) (sc := defScope s_attached) (by decide +kernel)) (fun _ _ _ _ _ => (pg_tup rfl (pgs_cons (pg_name (i := 6) sc_attached.nd rfl (Or.inl rfl)) (pgs_cons (pg_name (i := 8) sc_attached.nd rfl (Or.inl rfl)) (pgs_cons (pg_name (i := 9) sc_attached.nd rfl (Or.inl rfl)) (pgs_cons (pg_name (i := 10) sc_attached.nd rfl (Or.inl rfl)) pgs_nil)))))) (fun _ _ _ _ _ => pts_nil) (fun _ _ _ _ _ => (pe_tup (pa_cons (pe_dget (by exact hu_of hr) (pv 4) (pv 6) (fun _ _ => rfl)) (pa_cons (pe_dget (by exact hu_of hr) (pv 4) (pv 8) (fun _ _ => rfl)) (pa_cons (pv 9) (pa_cons (pv 10) pa_nil)))))))
      (pss_one (ps_ret (ok_make T.mkr_Sheet (ok_Sheet_init_ T) (hr.mono (by decide)) rfl T.g_Sheet (passE rfl rfl rfl rfl) (pa_cons (pe_op op_cat (ok_meth0 T.cls_Sheet T.m_Sheet_cues (ok_Sheet_cues T) (hr.mono (by decide)) passL (pv 0) ) (pv 11)) pa_nil)))))))))))), ?_⟩
    have hsz : sizeLine = 16777216 := sizeLine_eq
    rcases hc with ⟨hn, kE⟩ | ⟨s, cs, rfl, hs, hc⟩
    · exact ⟨_, rfl, _, rfl, .inr ⟨hn, kE⟩⟩
    refine ⟨_, rfl, _, rfl, .inl ⟨s, cs, rfl, hs, ?_⟩⟩
    rcases hc with ⟨hn, kE⟩ | ⟨t, ds, rfl, ht, hav, hc⟩
    · exact ⟨_, rfl, _, rfl, .inr ⟨hn, kE⟩⟩
    refine ⟨_, rfl, _, rfl, .inl ⟨t, ds, rfl, ht, ?_⟩⟩
    obtain ⟨dx, fs, lm, ms, dr, kvs0, h1, h2, h3, hno, h4, h5, h6, h7⟩ := hs.at2
    obtain ⟨dx', fs', lm', ms', dr', kvs0', h1', h2', h3', hno', h4', h5', h6', h7'⟩ := ht.at2
    have n0 : fs.lookup ("need" : Str) = none := hno _ (by decide) (by decide) (by decide) (by decide)
    have n1 : fs.lookup ("names" : Str) = none := hno _ (by decide) (by decide) (by decide) (by decide)
    have n2 : fs.lookup ("cues" : Str) = none := hno _ (by decide) (by decide) (by decide) (by decide)
    have n1' : fs'.lookup ("names" : Str) = none := hno' _ (by decide) (by decide) (by decide) (by decide)
    have n2' : fs'.lookup ("cues" : Str) = none := hno' _ (by decide) (by decide) (by decide) (by decide)
    have hcl := hs.2.1.len
    have hdl := ht.2.1.len
    rcases hc with ⟨hin, kE⟩ | ⟨az, rfl, haz, hbv, hbl, hc⟩
    · exact ⟨_, rfl, s, dx, _, rfl, h1, n0, _, rfl, s, cs, a, rfl, hs, hav, (fun q => by rw [hin] at q; cases q), fun _ => kE⟩
    have hin : inSh cs (.str az) = true := by rw [inSh_str]; exact decide_eq_true haz
    refine ⟨_, rfl, s, dx, _, rfl, h1, n0, _, rfl, s, cs, .str az, rfl, hs, hav, (fun _ => ?_), fun q => by rw [hin] at q; cases q⟩
    refine ⟨_, rfl, b, rfl, hbv, (fun z e => by have := hbl z e; omega), fun H1 s1 => ⟨_, rfl, ?_⟩⟩
    rcases hc with ⟨hnb, kE⟩ | ⟨pre, rfl, hpre, hc⟩
    · rw [hnb]
      exact iteT ⟨_, rfl, mk_at T.xc_InvalidName.oex T.xc_InvalidName.no (rf_of (kE.up s1))⟩
    rw [show nameV (.str pre) = true from hpre]
    have hpl : pre.length ≤ 1000 := hbl _ rfl
    refine iteF fun d gd => ⟨_, rfl, upd_same, [(Sum.inr "start", .str az)], rfl, (by show 1 ≤ 15; decide), ?_⟩
    have em : mergeK [] [((Sum.inr "start" : Key), V.str az)] = ([(Sum.inr "start", V.str az)] : List (Key × V)) := rfl
    rw [em]
    have gd0 : H d = none := none_of s1 gd
    generalize hH2 : upd (upd H1 d (.dK [])) d (.dK [(Sum.inr "start", .str az)]) = H2
    have s2 : Same H H2 := by rw [← hH2]; exact AT.Same.new (AT.Same.new s1 gd0) gd0
    have hd2 : H2 d = some (.dK [(Sum.inr "start", .str az)]) := by rw [← hH2]; exact upd_same
    clear hH2
    refine ⟨_, rfl, s, dx, _, rfl, s2 _ _ h1, n1, s, cs, rfl, hs.up s2, fun D1 H3 s3 gD1 hD1 => ⟨D1, _, rfl, .inr (SqL.of hD1), (by rw [List.length_cons, List.length_append, List.length_map, List.length_map, List.length_nil]; omega), fun Tk gTk => ?_⟩⟩
    have eT : V.str "start" :: ((cs.map (·.1)).map V.str ++ []) = (nmS cs).map V.str := by rw [List.append_nil]; rfl
    rw [eT]
    have s4 := AT.Same.up (o := .lst ((nmS cs).map V.str)) gTk
    have hTk : upd H3 Tk (.lst ((nmS cs).map V.str)) Tk = some (.lst ((nmS cs).map V.str)) := upd_same
    have s04 := s2.trans (s3.trans s4)
    have hd4 := s4 _ _ (s3 _ _ hd2)
    generalize upd H3 Tk (.lst ((nmS cs).map V.str)) = H4 at s4 hTk s04 hd4 ⊢
    refine ⟨_, rfl, t, dx', _, rfl, s04 _ _ h1', n1', t, ds, rfl, ht.up s04, fun D2 H5 s5 gD2 hD2 => ⟨D2, rfl, ⟨_, SqL.of hD2⟩, ?_⟩⟩
    have hTk5 := s5 _ _ hTk
    have hd5 := s5 _ _ hd4
    have nD2 : D2 ≠ d := by rintro rfl; rw [hd4] at gD2; cases gD2
    have nTk : Tk ≠ d := by rintro rfl; rw [hd5] at hTk5; cases hTk5
    have ml : ((ds.map (·.1)).map V.str).length = ds.length := by rw [List.length_map, List.length_map]
    have mp0 : MpV az pre (ds.take 0) [((Sum.inr "start" : Key), V.str az)] := fun n => by
      by_cases e : n = "start"
      · subst e
        rw [if_pos (by simp)]
        rfl
      · rw [if_neg (by simpa using e), valV_neg (p := ((Sum.inr "start" : Key), V.str az)) (fun z => e (Sum.inr.inj z).symm)]
        rfl
    refine for_list (xs := (ds.map (·.1)).map V.str) (fun i σ' H' => (∃ o6 o7, σ' = ([some (.ref s), some (.ref t), some (.str az), some (.str pre), some (.ref d), some (.ref Tk), o6, o7, none, none, none, none] : L2.St)) ∧ Same H H' ∧ H' D2 = some (.lst ((ds.map (·.1)).map V.str)) ∧ H' Tk = some (.lst ((nmS cs).map V.str)) ∧ (∃ kvs, H' d = some (.dK kvs) ∧ MpV az pre (ds.take i) kvs ∧ kvs.length ≤ i + 1) ∧ ∀ j e, j < i → ds[j]? = some e → isNameS (pre ++ e.1) = true ∧ pre ++ e.1 ∉ nmS cs) ⟨⟨_, _, rfl⟩, s04.trans s5, hD2, hTk5, ⟨_, hd5, mp0, by simp⟩, fun j e h => absurd h (Nat.not_lt_zero _)⟩ (fun i σ' H' _ hP => SqL.of hP.2.2.1) (fun i x σ' H' hxi hP => ?_) (fun σ' H' hP => ?_)
    · obtain ⟨⟨o6, o7, rfl⟩, sm, hD', hT', ⟨kvs, hdv, hmp, hkl⟩, hfit⟩ := hP
      rw [List.map_map, List.getElem?_map] at hxi
      obtain ⟨c, hc', rfl⟩ := Option.map_eq_some_iff.mp hxi
      have hcn := (nameS_len (ht.2.1.name c (List.mem_of_getElem? hc')))
      have hi : i < ds.length := (List.getElem?_eq_some_iff.mp hc').1
      refine ⟨_, rfl, _, rfl, _, _, rfl, rfl, (by show pre.length + c.1.length ≤ sizeLine; omega), ?_⟩
      have ln : (pre ++ c.1).length < sizeLine := by
        rw [show (pre ++ c.1).length = pre.length + c.1.length from strLen_append _ _]
        omega
      refine ⟨_, rfl, .str (pre ++ c.1), rfl, .str _, (fun z e => by cases e; exact ln), fun H6 s6 => ⟨_, rfl, ?_⟩⟩
      have bad : ∀ x f, ((isNameS (pre ++ c.1) = false ∧ x = "InvalidName" ∧ f = "value") ∨ (isNameS (pre ++ c.1) = true ∧ pre ++ c.1 ∈ nmS cs ∧ x = "Duplicate" ∧ f = "label")) → Rf K x f (.str (pre ++ c.1)) H E := fun x f hx => by
        rcases hc with ⟨x0, f0, v0, ⟨j, e, he, hj, rfl, hw⟩, kE⟩ | ⟨hall, _⟩
        · have ej : j = i := by
            rcases Nat.lt_trichotomy j i with h | h | h
            · obtain ⟨q1, q2⟩ := hfit j e h he
              rcases hw with ⟨w1, _⟩ | ⟨_, w2, _⟩
              · rw [q1] at w1; cases w1
              · exact absurd w2 q2
            · exact h
            · obtain ⟨q1, q2⟩ := hj i c h hc'
              rcases hx with ⟨w1, _⟩ | ⟨_, w2, _⟩
              · rw [q1] at w1; cases w1
              · exact absurd w2 q2
          subst ej
          rw [hc'] at he
          cases he
          rcases hx with ⟨a1, rfl, rfl⟩ | ⟨a1, a2, rfl, rfl⟩
          · rcases hw with ⟨_, rfl, rfl⟩ | ⟨w1, _⟩
            · exact kE
            · rw [a1] at w1; cases w1
          · rcases hw with ⟨w1, _⟩ | ⟨_, _, rfl, rfl⟩
            · rw [a1] at w1; cases w1
            · exact kE
        · obtain ⟨q1, q2⟩ := hall c (List.mem_of_getElem? hc')
          rcases hx with ⟨w1, _⟩ | ⟨_, w2, _⟩
          · rw [q1] at w1; cases w1
          · exact absurd w2 q2
      cases hnm : isNameS (pre ++ c.1) with
      | false =>
        rw [show nameV (.str (pre ++ c.1)) = false from hnm]
        exact iteT ⟨_, rfl, mk_at T.xc_InvalidName.oex T.xc_InvalidName.no (rf_of ((bad _ _ (.inl ⟨hnm, rfl, rfl⟩)).up (sm.trans s6)))⟩
      | true =>
        rw [show nameV (.str (pre ++ c.1)) = true from hnm]
        refine iteF ⟨_, rfl, _, rfl, Tk, _, rfl, .inl (SqL.of (s6 _ _ hT')), rfl, flat_strs _, _, rfl, ?_⟩
        rw [if_neg (by decide), inV_str]
        by_cases hmem : pre ++ c.1 ∈ nmS cs
        · rw [decide_eq_true hmem]
          exact iteT ⟨_, rfl, mk_at T.xc_Duplicate.oex T.xc_Duplicate.no (rf_of ((bad _ _ (.inr ⟨hnm, hmem, rfl, rfl⟩)).up (sm.trans s6)))⟩
        · rw [decide_eq_false hmem]
          obtain ⟨g1, g2⟩ := ht.2.1.good.at hc'
          have no1 : valV kvs (Sum.inr c.1) = none := by rw [hmp c.1, if_neg g1]
          refine iteF ⟨_, rfl, _, rfl, _, rfl, d, _, rfl, DPut.k (k := Sum.inr c.1) (s6 _ _ hdv) (by omega), ?_⟩
          refine ⟨⟨_, _, rfl⟩, AT.Same.new (sm.trans s6) gd0, by rw [upd_ne nD2]; exact s6 _ _ hD', by rw [upd_ne nTk]; exact s6 _ _ hT', ⟨_, upd_same, fun n => ?_, ?_⟩, fun j e hj he => ?_⟩
          · rw [valV_put, hmp n, List.take_add_one, hc']
            have en : nmS (ds.take i ++ (some c).toList) = nmS (ds.take i) ++ [c.1] := by
              show ("start" : Str) :: (ds.take i ++ [c]).map (·.1) = _
              rw [List.map_append]
              rfl
            rw [en]
            by_cases e : n = c.1
            · subst e
              rw [if_pos rfl, if_pos (List.mem_append_right _ (by simp))]
              unfold atN
              rw [if_neg fun z => g1 (by rw [z]; exact List.mem_cons_self)]
            · rw [if_neg fun z => e (Sum.inr.inj z)]
              by_cases q : n ∈ nmS (ds.take i)
              · rw [if_pos q, if_pos (List.mem_append_left _ q)]
              · rw [if_neg q, if_neg fun z => by
                  rcases List.mem_append.mp z with z | z
                  · exact q z
                  · exact e (List.mem_singleton.mp z)]
          · rw [putK_new _ no1, List.length_append, List.length_singleton]
            omega
          · by_cases h : j < i
            · exact hfit j e h he
            · have : j = i := by omega
              subst this
              rw [hc'] at he
              cases he
              exact ⟨hnm, hmem⟩
    · obtain ⟨⟨o6, o7, rfl⟩, sm, hD', hT', ⟨kvs, hdv, hmp, hkl⟩, hfit⟩ := hP
      rw [ml] at hmp hfit
      rw [List.take_length] at hmp
      rcases hc with ⟨x0, f0, v0, ⟨j, e, he, hj, rfl, hw⟩, _⟩ | ⟨hall, hlen, hc⟩
      · obtain ⟨q1, q2⟩ := hfit j e (List.getElem?_eq_some_iff.mp he).1 he
        rcases hw with ⟨w1, _⟩ | ⟨_, w2, _⟩
        · rw [q1] at w1; cases w1
        · exact absurd w2 q2
      have ht9 := ht.up sm
      refine ⟨_, rfl, t, dx', _, rfl, sm _ _ h1', n2', t, ds, rfl, ht9, fun D3 xs H6 s6 gD3 hD3 hx => ⟨D3, rfl, ⟨_, SqL.of hD3⟩, fun C gC => ?_⟩⟩
      have hxl := hx.length
      have hd6 := s6 _ _ hdv
      refine lc_list (K := K) (a := D3) (xs := xs) (fun i H' => Same H6 H' ∧ ∃ ys, H' C = some (.lst ys) ∧ Paired (CuT K H') ys ((ds.take i).map (atC az pre))) ⟨AT.Same.up gC, [], upd_same, .nil⟩ (fun i H' _ hP => SqL.of (hP.1 _ _ hD3)) (fun i x H' hxi hP => ?_) (fun H7 hP => ?_)
      · obtain ⟨sq, ys, hys, hy⟩ := hP
        obtain ⟨c, hc', tt, p, rfl, htt, hp⟩ := prd_getL hx hxi
        have hcm := List.mem_of_getElem? hc'
        have hyl := hy.length
        rw [List.length_map, List.length_take] at hyl
        have hp2 := hp.up sq
        obtain ⟨g1, g2⟩ := ht.2.1.good.at hc'
        have v1 : valV kvs (Sum.inr c.1) = some (.str (pre ++ c.1)) := by
          rw [hmp c.1, if_pos (List.mem_cons_of_mem _ (List.mem_map_of_mem hcm))]
          unfold atN
          rw [if_neg fun z => g1 (by rw [z]; exact List.mem_cons_self)]
        have v2 : valV kvs (Sum.inr c.2.1) = some (.str (atN az pre c.2.1)) := by
          rw [hmp c.2.1, if_pos]
          rcases List.mem_cons.mp g2 with z | z
          · rw [z]; exact List.mem_cons_self
          · obtain ⟨e, he, z⟩ := List.mem_map.mp z
            exact List.mem_cons_of_mem _ (List.mem_map.mpr ⟨e, List.mem_of_mem_take he, z⟩)
        refine ⟨tt, _, rfl, SqT.of (sq _ _ htt), rfl, _, _, rfl, _, _, rfl, _, _, rfl, _, _, rfl, rfl, rfl, ?_⟩
        dsimp only [tYes]
        refine iteT ⟨_, rfl, _, rfl, d, _, rfl, .inl ⟨kvs, Sum.inr c.1, .inl (sq _ _ hd6), rfl, v1.symm⟩, _, rfl, _, rfl, d, _, rfl, .inl ⟨kvs, Sum.inr c.2.1, .inl (sq _ _ hd6), rfl, v2.symm⟩, _, rfl, _, rfl, (by show 4 ≤ sizeLine; omega), fun t2 g2 => ⟨ys, (AT.Same.up g2) _ _ hys, (by omega), ?_⟩⟩
        have sA := AT.Same.up (o := .tup [.str (pre ++ c.1), .str (atN az pre c.2.1), .str (uS c.2.2.1), .ref p]) g2
        have tu : TQ K (upd H' t2 (.tup [.str (pre ++ c.1), .str (atN az pre c.2.1), .str (uS c.2.2.1), .ref p])) (upd (upd H' t2 (.tup [.str (pre ++ c.1), .str (atN az pre c.2.1), .str (uS c.2.2.1), .ref p])) C (.lst (ys ++ [.ref t2]))) := TQ.up (sA _ _ hys) (fun _ z => nomatch z) (fun _ _ z => nomatch z)
        refine ⟨AT.Same.new (sq.trans sA) gC, _, upd_same, ?_⟩
        rw [List.take_add_one, hc', Option.toList_some, List.map_append]
        exact prd_app (Paired.mapP hy fun _ _ z => z.tq ((TQ.of sA).trans tu)) (.cons ⟨t2, p, rfl, tu.1 _ _ upd_same, (hp2.up sA).tq tu⟩ .nil)
      · obtain ⟨sq, ys, hys, hy⟩ := hP
        rw [hxl, List.take_length] at hy
        have s7 := sm.trans (s6.trans sq)
        have hyl := hy.length
        rw [List.length_map] at hyl
        refine ⟨_, rfl, s, dx, _, rfl, s7 _ _ h1, n2, s, cs, rfl, hs.up s7, fun D4 zs H8 s8 g4 hD4 hz => ⟨_, rfl, D4, C, _, _, rfl, rfl, hD4, s8 _ _ hys, (by have := hz.length; omega), fun M gM => ?_⟩⟩
        have sM := AT.Same.up (o := .lst (zs ++ ys)) gM
        have okA := att_ok hs.2.1 ht.2.1 haz hall hlen
        have sall := s7.trans (s8.trans sM)
        have s8M := s8.trans sM
        refine mk_sheetR (shIn_of upd_same (prd_app (Paired.mapP hz fun _ _ z => z.tq (TQ.of sM)) (Paired.mapP hy fun _ _ z => z.tq (TQ.of s8M))) (fun c hc => ⟨okA.name c hc, okA.size c hc⟩) okA.len (.inr ⟨okA.good, ?_⟩))
        rcases hc with ⟨h8, kE⟩ | ⟨h8, k⟩
        · exact .inl ⟨h8, kE.up sall⟩
        · exact .inr ⟨h8, fun p H9 s9 g9 hs9 => k p H9 (sall.trans s9) (none_of sall g9) ⟨hs9, okA, h8⟩⟩
end
end K34

set_option maxHeartbeats 4000000
namespace K34
open PySem PySem.Spec PyProof.Rows L2 AT
section
variable {P : Program} {w : World} {K : PySem.W.Frag} {mg : Str → Option Value} {base : Heap}
/-! ### told sheets as plain cues -/
def spPlS (K : PySem.W.Frag) : Sp := fun vs H Q _ => ∃ s cs, vs = [.ref s] ∧ ShtOk K H s cs ∧ ∀ D H', Same H H' → H D = none → CsL H' D cs → Q (.ref D) H'
theorem sc_w_plain : FnScope ["_law_sheet", "_law_name", "_law_parent", "_law_unit", "_law_amount_here"] ["_law_sheet"] (defScope s_w_plain) := ⟨rfl, rfl, rfl, by decide +kernel, rfl, by decide +kernel, by decide +kernel⟩
theorem ok_w_plain (T : Tx K mg base) : Ok P w K mg base 4 (d_w_plain.loc K) ["_law_sheet"] (spPlS K) := by
  refine mk_ok (k := 3) T.f_w_plain sc_w_plain (fun _ _ _ _ _ _ us hl => match us, hl with | [_], _ => rfl) (fun vs H Q E h => ?_) (fun cdv A outer s H vs Q E hr h => ?_)
  · obtain ⟨s, cs, rfl, _⟩ := h
    rfl
  · obtain ⟨s, cs, rfl, hs, k⟩ := h
    refine ⟨_, (pss_one (ps_ret (pe_lc (own := [("_law_name", 1), ("_law_parent", 2), ("_law_unit", 3), ("_law_amount_here", 4)]) (g := (gTup K 4 (gCons (gName 1) (gCons (gName 2) (gCons (gName 3) (gCons (gName 4) gNil)))))) (tt := tYes) (by rfl) sc_w_plain.nd (pi_list (ok_meth0 T.cls_Sheet T.m_Sheet_cues (ok_Sheet_cues T) (hr.mono (by decide)) passL (pv 0) )) (blkOk_by (own := [("_law_name", 1), ("_law_parent", 2), ("_law_unit", 3), ("_law_amount_here", 4)]) (N := ["_law_sheet", "_law_name", "_law_parent", "_law_unit", "_law_amount_here"]) (sc := defScope s_w_plain) (by decide +kernel)) (fun _ _ _ _ _ => (pg_tup rfl (pgs_cons (pg_name (i := 1) sc_w_plain.nd rfl (Or.inl rfl)) (pgs_cons (pg_name (i := 2) sc_w_plain.nd rfl (Or.inl rfl)) (pgs_cons (pg_name (i := 3) sc_w_plain.nd rfl (Or.inl rfl)) (pgs_cons (pg_name (i := 4) sc_w_plain.nd rfl (Or.inl rfl)) pgs_nil)))))) (fun _ _ _ _ _ => pts_nil) (fun _ _ _ _ _ => (pe_tup (pa_cons (pv 1) (pa_cons (pv 2) (pa_cons (pv 3) (pa_cons (pe_tup (pa_cons (ok_prop T.cls_Amount T.pr_Amount_top (ok_Amount_top T) (hr.mono (by decide)) (pv 4)) (pa_cons (ok_prop T.cls_Amount T.pr_Amount_bottom (ok_Amount_bottom T) (hr.mono (by decide)) (pv 4)) pa_nil))) pa_nil))))))))), ?_⟩
    have hsz : sizeLine = 16777216 := sizeLine_eq
    have hok := hs.2.1
    have hcl := hok.len
    obtain ⟨dx, fs, dc, kvs, dr, kr, h1, h2, h3, hno, h4, h5, h6, h7⟩ := hs.at3
    have n1 : fs.lookup ("cues" : Str) = none := hno _ (by decide) (by decide) (by decide) (by decide)
    refine ⟨_, rfl, s, dx, _, rfl, h1, n1, s, cs, rfl, hs, fun D xs H2 s2 gD hD hx => ⟨D, rfl, ⟨_, SqL.of hD⟩, fun D2 g2 => ?_⟩⟩
    have hxl := hx.length
    refine lc_list (K := K) (a := D) (xs := xs) (fun j H' => Same H2 H' ∧ ∃ ys, H' D2 = some (.lst ys) ∧ Paired (CuL H') ys (cs.take j)) ⟨AT.Same.up g2, [], upd_same, .nil⟩ (fun j H' _ hP => SqL.of (hP.1 _ _ hD)) (fun j x H' hxj hP => ?_) (fun H' hP => ?_)
    · obtain ⟨sm, ys, hys, hy⟩ := hP
      obtain ⟨c, hc, t, p, rfl, ht, hp⟩ := prd_getL hx hxj
      have hyl := hy.length
      rw [List.length_take] at hyl
      have hp2 := hp.up sm
      obtain ⟨dp, ep⟩ := id hp2
      refine ⟨t, _, rfl, SqT.of (sm _ _ ht), rfl, _, _, rfl, _, _, rfl, _, _, rfl, _, _, rfl, rfl, rfl, ?_⟩
      dsimp only [tYes]
      refine iteT ⟨_, rfl, _, rfl, _, rfl, _, rfl, p, dp, _, rfl, ep, p, _, rfl, hp2, _, rfl, p, dp, _, rfl, ep, p, _, rfl, hp2, (by show 2 ≤ sizeLine; decide), fun t1 g1 => ⟨(by show 4 ≤ sizeLine; decide), fun t2 gt2 => ?_⟩⟩
      have sA := AT.Same.up (o := .tup [.int c.2.2.2.num, .int c.2.2.2.den]) g1
      have sB := AT.Same.up (o := .tup [.str c.1, .str c.2.1, .str (uS c.2.2.1), .ref t1]) gt2
      have sAB := sA.trans sB
      have hys2 := sAB _ _ hys
      have tu : TT (upd (upd H' t1 (.tup [.int c.2.2.2.num, .int c.2.2.2.den])) t2 (.tup [.str c.1, .str c.2.1, .str (uS c.2.2.1), .ref t1])) (upd (upd (upd H' t1 (.tup [.int c.2.2.2.num, .int c.2.2.2.den])) t2 (.tup [.str c.1, .str c.2.1, .str (uS c.2.2.1), .ref t1])) D2 (.lst (ys ++ [.ref t2]))) := TT.up hys2 (fun _ z => nomatch z)
      refine ⟨ys, hys2, (by omega), AT.Same.new (sm.trans sAB) g2, _, upd_same, ?_⟩
      rw [List.take_add_one, hc]
      exact prd_app (Paired.mapP hy fun _ _ z => z.up ((TT.of sAB).trans tu)) (.cons ⟨t2, t1, rfl, tu _ _ upd_same, tu _ _ (sB _ _ upd_same)⟩ .nil)
    · obtain ⟨sm, ys, hys, hy⟩ := hP
      rw [hxl, List.take_length] at hy
      exact k D2 H' (s2.trans sm) (none_of s2 g2) ⟨ys, hys, hy⟩
/-! ### the cues whose amounts of a unit are multiplied -/
def spTms : Sp := fun vs H Q _ => ∃ D cs u bv q, vs = [.ref D, .str (uS u), bv] ∧ CsL H D cs ∧ PQ H bv q ∧ cs.length < 1000 ∧ Bits 100 q ∧ (∀ c ∈ cs, Bits 100 c.2.2.2) ∧ ∀ D2 H', Same H H' → H D2 = none → CsL H' D2 (trS (fun b => b) (mAt u q) cs) → Q (.ref D2) H'
theorem sc_w_times : FnScope ["_law_cues_here", "_law_unit", "_law_by", "_law_found", "_law_name", "_law_parent", "_law_own", "_law_amount_here"] ["_law_cues_here", "_law_unit", "_law_by"] (defScope s_w_times) := ⟨rfl, rfl, rfl, by decide +kernel, rfl, by decide +kernel, by decide +kernel⟩
theorem ok_w_times (T : Tx K mg base) : Ok P w K mg base 2 (d_w_times.loc K) ["_law_cues_here", "_law_unit", "_law_by"] spTms := by
  refine mk_ok (k := 1) T.f_w_times sc_w_times (fun _ _ _ _ _ _ us hl => match us, hl with | [_, _, _], _ => rfl) (fun vs H Q E h => ?_) (fun cdv A outer s H vs Q E hr h => ?_)
  · obtain ⟨D, cs, u, bv, q, rfl, _⟩ := h
    rfl
  · obtain ⟨D, cs, u, bv, q, rfl, hcs, hbv, hcl, hbq, hb, k⟩ := h
    refine ⟨_, (pss_cons (ps_set (i := 3) sc_w_times.nd rfl (Or.inl rfl) (pe_lst pa_nil))
      (pss_cons (ps_for (passes_of rfl) rfl (pi_list (pv 0)) (pg_tup rfl (pgs_cons (pg_name (i := 4) sc_w_times.nd rfl (Or.inl rfl)) (pgs_cons (pg_name (i := 5) sc_w_times.nd rfl (Or.inl rfl)) (pgs_cons (pg_name (i := 6) sc_w_times.nd rfl (Or.inl rfl)) (pgs_cons (pg_name (i := 7) sc_w_times.nd rfl (Or.inl rfl)) pgs_nil))))) (Evl.pss_cut (ps_if (pt_cmpR op_eq (pv 6) (pv 1) (nomark _)) (pss_one (ps_set (i := 7) sc_w_times.nd rfl (Or.inl rfl) (ok_call (ok_w_lowest T) (hr.mono (by decide)) rfl T.g_w_lowest passL (pa_cons (pe_op op_mulW (pe_ix ix_tup (pv 7) pe_int (fun _ _ => rfl)) (pe_ix ix_tup (pv 2) pe_int (fun _ _ => rfl))) (pa_cons (pe_op op_mulW (pe_ix ix_tup (pv 7) pe_int (fun _ _ => rfl)) (pe_ix ix_tup (pv 2) pe_int (fun _ _ => rfl))) pa_nil))))) pss_nil)
      (pss_one (ps_expr (pe_bm PySem.F.plainAttrs_list PySem.F.slot_list_append PySem.F.type_list_append mt_append (pv 3) (pa_cons (pe_tup (pa_cons (pv 4) (pa_cons (pv 5) (pa_cons (pv 6) (pa_cons (pv 7) pa_nil))))) pa_nil))))))
      (pss_one (ps_ret (pv 3))))), ?_⟩
    have hsz : sizeLine = 16777216 := sizeLine_eq
    obtain ⟨xs, hD, hx⟩ := id hcs
    obtain ⟨pq, rfl, hpq⟩ := id hbv
    have hxl := hx.length
    refine ⟨Nat.zero_le _, fun F gF => ?_⟩
    have sF := AT.Same.up (o := .lst []) gF
    refine ⟨_, rfl, D, rfl, ⟨_, SqL.of (sF _ _ hD)⟩, for_list (xs := xs) (fun i σ' H' => (∃ o4 o5 o6 o7, σ' = ([some (.ref D), some (.str (uS u)), some (.ref pq), some (.ref F), o4, o5, o6, o7] : L2.St)) ∧ Same H H' ∧ ∃ ys, H' F = some (.lst ys) ∧ Paired (CuL H') ys (trS (fun b => b) (mAt u q) (cs.take i))) ⟨⟨_, _, _, _, rfl⟩, sF, [], upd_same, .nil⟩ (fun i σ' H' _ hP => SqL.of (hP.2.1 _ _ hD)) (fun i x σ' H' hxi hP => ?_) (fun σ' H' hP => ?_)⟩
    · obtain ⟨⟨o4, o5, o6, o7, rfl⟩, sm, ys, hys, hy⟩ := hP
      obtain ⟨c, hc, t, pr, rfl, ht, hpr⟩ := prd_getL hx hxi
      have hyl := hy.length
      rw [List.length_map, List.length_take] at hyl
      have hbc := hb c (List.mem_of_getElem? hc)
      have hpr' := sm _ _ hpr
      have hpq' := sm _ _ hpq
      have htk : trS (fun b => b) (mAt u q) (cs.take (i + 1)) = trS (fun b => b) (mAt u q) (cs.take i) ++ [PR.trC (fun b => b) (mAt u q) c] := by
        rw [List.take_add_one, hc]
        exact List.map_append
      refine ⟨t, _, rfl, SqT.of (sm _ _ ht), rfl, _, _, rfl, _, _, rfl, _, _, rfl, _, _, rfl, rfl, ?_⟩
      refine ⟨fun σ' Hd => ∃ r, σ' = ([some (.ref D), some (.str (uS u)), some (.ref pq), some (.ref F), some (.str c.1), some (.str c.2.1), some (.str (uS c.2.2.1)), some (.ref r)] : L2.St) ∧ Same H' Hd ∧ Hd r = some (pairQ (mAt u q c.2.2.1 * c.2.2.2)), ?_, ?_⟩
      · refine ⟨_, rfl, _, rfl, rfl, _, rfl, ?_⟩
        by_cases hu : c.2.2.1 = u
        · rw [decide_eq_true (by rw [hu])]
          have e : mAt u q c.2.2.1 * c.2.2.2 = Rat.divInt (c.2.2.2.num * q.num) (c.2.2.2.den * q.den) := by
            rw [q_mul]
            unfold mAt
            rw [if_pos hu]
            grind
          have m1 := mul_bits hbc.1 hbq.1
          have m2 := mul_bits (den_bits hbc) (den_bits hbq)
          have up : ∀ {n : Int}, n.natAbs < 2 ^ 100 → n.natAbs < 2 ^ 3000 := fun h => Nat.lt_of_lt_of_le h (Nat.pow_le_pow_right (by decide) (by decide))
          refine iteT ⟨_, rfl, pr, _, 0, _, rfl, rfl, SqT.of hpr', rfl, _, rfl, pq, _, 0, _, rfl, rfl, SqT.of hpq', rfl, _, _, rfl, rfl, mul4 (up hbc.1) (up hbq.1), _, rfl, pr, _, 1, _, rfl, rfl, SqT.of hpr', rfl, _, rfl, pq, _, 1, _, rfl, rfl, SqT.of hpq', rfl, _, _, rfl, rfl, mul4 (up (den_bits hbc)) (up (den_bits hbq)), _, _, rfl, Int.mul_ne_zero (den_ne _) (den_ne _), Nat.lt_of_lt_of_le m1 (Nat.pow_le_pow_right (by decide) (by decide)), Nat.lt_of_lt_of_le m2 (Nat.pow_le_pow_right (by decide) (by decide)), fun r Hr sr gr hr => ⟨r, rfl, sr, ?_⟩⟩
          rw [e]
          exact hr
        · rw [decide_eq_false (fun z => hu (uS_inj (V.str.inj z)))]
          refine iteF ⟨pr, rfl, Same.refl _, ?_⟩
          rw [show mAt u q c.2.2.1 * c.2.2.2 = c.2.2.2 by unfold mAt; rw [if_neg hu]; exact Rat.one_mul _]
          exact hpr'
      · rintro σ' Hd ⟨r, rfl, sd, hr⟩
        have hys2 := sd _ _ hys
        refine ⟨_, rfl, .inl ⟨rfl, _, SqL.of hys2⟩, _, rfl, _, rfl, _, rfl, _, rfl, (by show 4 ≤ sizeLine; omega), fun t2 g2 => ?_⟩
        have sA := AT.Same.up (o := .tup [.str c.1, .str c.2.1, .str (uS c.2.2.1), .ref r]) g2
        have hys3 := sA _ _ hys2
        refine ⟨F, _, _, rfl, rfl, hys3, (by omega), ?_⟩
        have tu : TT (upd Hd t2 (.tup [.str c.1, .str c.2.1, .str (uS c.2.2.1), .ref r])) (upd (upd Hd t2 (.tup [.str c.1, .str c.2.1, .str (uS c.2.2.1), .ref r])) F (.lst (ys ++ [.ref t2]))) := TT.up hys3 (fun _ z => nomatch z)
        refine ⟨⟨_, _, _, _, rfl⟩, AT.Same.new (sm.trans (sd.trans sA)) gF, _, upd_same, ?_⟩
        rw [htk]
        exact prd_app (Paired.mapP hy fun _ _ z => z.up ((TT.of (sd.trans sA)).trans tu)) (.cons ⟨t2, r, rfl, tu _ _ upd_same, tu _ _ (sA _ _ hr)⟩ .nil)
    · obtain ⟨⟨o4, o5, o6, o7, rfl⟩, sm, ys, hys, hy⟩ := hP
      rw [hxl, List.take_length] at hy
      exact ⟨_, rfl, k F H' sm gF ⟨ys, hys, hy⟩⟩
end
end K34

set_option maxHeartbeats 4000000
namespace K34
open PySem PySem.Spec PyProof.Rows L2 AT
section
variable {K : PySem.W.Frag}
theorem name_cps {z : Str} (h : isNameS z = true) : ∀ c ∈ z.cps.toList, c < 128 := by
  unfold isNameS at h
  simp only [Bool.and_eq_true, List.all_eq_true] at h
  intro c hc
  have h1 : ∀ c ∈ letters.cps.toList, c < 128 := by decide +kernel
  have h2 : ∀ c ∈ digits.cps.toList, c < 128 := by decide +kernel
  have z := h.2.2.2 c hc
  rcases Bool.or_eq_true_iff.mp z with e | e
  · exact h1 c (of_decide_eq_true e)
  · exact h2 c (of_decide_eq_true e)
def cueD (c : Cue) : PyData := .tuple [.str c.1, .str c.2.1, .str (uS c.2.2.1), pairD c.2.2.2]
def cuesD (cs : List Cue) : PyData := .list (cs.map cueD)
theorem cueD_eqv (m n : Cue) : PyData.eqv (cueD m) (cueD n) = decide (m = n) := by
  obtain ⟨a, b, u, q⟩ := m
  obtain ⟨a', b', v, p⟩ := n
  have e : PyData.eqv (cueD (a, b, u, q)) (cueD (a', b', v, p)) = ((a == a') && ((b == b') && ((uS u == uS v) && (PyData.eqv (pairD q) (pairD p) && true)))) := by simp only [cueD, PyData.eqv, PyData.eqvAll]
  rw [e, pairD_eqv, Bool.eq_iff_iff]
  simp only [Bool.and_eq_true, beq_iff_eq, decide_eq_true_eq, Prod.mk.injEq, and_true]
  exact ⟨fun ⟨h0, h1, h2, h3⟩ => ⟨h0, h1, uS_inj h2, h3⟩, fun ⟨h0, h1, h2, h3⟩ => by subst h0 h1 h2 h3; exact ⟨rfl, rfl, rfl, rfl⟩⟩
theorem cuesD_eqv (r s : List Cue) : PyData.eqv (cuesD r) (cuesD s) = decide (r = s) := by
  have e : PyData.eqv (cuesD r) (cuesD s) = PyData.eqvAll (r.map cueD) (s.map cueD) := by simp only [cuesD, PyData.eqv]
  rw [e, eqvAll_map cueD_eqv]
theorem CuL.dp {H : Hp} {v : V} {c : Cue} (h : CuL H v c) : Dp K H v (cueD c) := by
  obtain ⟨t, pr, rfl, e, e2⟩ := h
  exact .tup (SqT.of e) (.cons (.str _) (.cons (.str _) (.cons (.str _) (.cons (.tup (SqT.of e2) (.cons (.int _) (.cons (.int _) .nil))) .nil))))
theorem CsL.dp {H : Hp} {D : Addr} {cs : List Cue} (h : CsL H D cs) : Dp K H (.ref D) (cuesD cs) := by
  obtain ⟨xs, h1, h2⟩ := h
  exact .lst (SqL.of h1) (dpall (fun _ _ z => z.dp) h2)
/-! ### data of cues -/
theorem name_strOk {z : Str} (h : isNameS z = true) : PyData.strOk z = true := by
  unfold PyData.strOk
  rw [Array.all_eq_true]
  intro i hi
  have := name_cps h z.cps[i] (by simp)
  simp only [decide_eq_true_eq]
  omega
theorem start_strOk : PyData.strOk "start" = true := by decide +kernel
theorem parent_strOk {cs : List Cue} (h : CuesOk cs) {c : Cue} (hc : c ∈ cs) : PyData.strOk c.2.1 = true := by
  obtain ⟨i, hi⟩ := List.mem_iff_getElem?.mp hc
  rcases List.mem_cons.mp (h.good.at hi).2 with e | e
  · rw [e]; exact start_strOk
  · obtain ⟨d, hd, e⟩ := List.mem_map.mp e
    rw [← e]
    exact name_strOk (h.name d (List.mem_of_mem_take hd))
theorem cueD_lay {c : Cue} (h1 : PyData.strOk c.1 = true) (h2 : PyData.strOk c.2.1 = true) : (cueD c).canLay0 = true := by
  simp [cueD, PyData.canLay0, PyData.canLayAll0, uS_ok, pairD_lay, h1, h2]
theorem cueD_depth (c : Cue) : (cueD c).depth ≤ 2 := by
  have := pairD_depth c.2.2.2
  simp only [cueD, PyData.depth, PyData.depthAll]
  omega
theorem lay_mem {α : Type} {D : α → PyData} : ∀ {l : List α}, (∀ x ∈ l, (D x).canLay0 = true) → PyData.canLayAll0 (l.map D) = true
  | [], _ => by simp [PyData.canLayAll0]
  | x :: l, h => by simp [PyData.canLayAll0, h x (by simp), lay_mem fun y hy => h y (List.mem_cons_of_mem _ hy)]
theorem cuesD_shaped {cs : List Cue} (h : ∀ c ∈ cs, PyData.strOk c.1 = true ∧ PyData.strOk c.2.1 = true) : SeqAt.shaped (cuesD cs) = true := by
  refine shaped_of (n := 3) ?_ ?_ (by decide)
  · simp only [cuesD, PyData.canLay0]
    exact lay_mem fun c hc => cueD_lay (h c hc).1 (h c hc).2
  · have := depth_all cueD_depth cs
    simp only [cuesD, PyData.depth]
    omega
theorem CuesOk.strs {cs : List Cue} (h : CuesOk cs) : ∀ c ∈ cs, PyData.strOk c.1 = true ∧ PyData.strOk c.2.1 = true := fun c hc => ⟨name_strOk (h.name c hc), parent_strOk h hc⟩
theorem same_flat {xs : List V} (hf : ∀ v ∈ xs, flatV v = true ∧ eqV v v = true) {i : Nat} {x y : V} (e1 : xs[i]? = some x) (e2 : xs[i]? = some y) : EqPair x y true := by
  rw [e1] at e2
  cases e2
  obtain ⟨h1, h2⟩ := hf x (List.mem_of_getElem? e1)
  exact .inr ⟨h1, h1, h2.symm⟩
theorem strs_flat (l : List Str) : ∀ v ∈ l.map V.str, flatV v = true ∧ eqV v v = true := fun v hv => by
  obtain ⟨z, _, rfl⟩ := List.mem_map.mp hv
  exact ⟨rfl, by simp [eqV]⟩
theorem alike_same {K : PySem.W.Frag} {H : Hp} {a b : Addr} {xs : List V} (ha : H a = some (.lst xs)) (hb : H b = some (.lst xs)) (hf : ∀ v ∈ xs, flatV v = true ∧ eqV v v = true) : AlikeL K (.ref a) (.ref b) H (fun _ => true) xs.length :=
  ⟨a, b, xs, xs, rfl, rfl, SqL.of ha, SqL.of hb, rfl, rfl, fun _ _ _ e1 e2 => same_flat hf e1 e2⟩
theorem oth_dict (u : Bool) : valV [((Sum.inr "beats" : Key), V.str "seconds"), (Sum.inr "seconds", V.str "beats")] (Sum.inr (uS u)) = some (.str (uS (!u))) := by cases u <;> decide
theorem frac_pos {a b : Int} (h1 : 1 ≤ a) (h2 : a ≤ 9) (h3 : 1 ≤ b) (h4 : b ≤ 9) : 0 < Rat.divInt a b ∧ Bits 4 (Rat.divInt a b) := by
  refine ⟨?_, bits_of (by omega) (Nat.lt_of_le_of_lt (show a.natAbs ≤ 9 by omega) (by decide)) (Nat.lt_of_le_of_lt (show b.natAbs ≤ 9 by omega) (by decide))⟩
  have z : ∀ a : Nat, a < 10 → ∀ b : Nat, b < 10 → 1 ≤ a → 1 ≤ b → 0 < Rat.divInt (a : Int) (b : Int) := by decide +kernel
  obtain ⟨m, rfl⟩ := Int.eq_ofNat_of_zero_le (show 0 ≤ a by omega)
  obtain ⟨n, rfl⟩ := Int.eq_ofNat_of_zero_le (show 0 ≤ b by omega)
  exact z m (by omega) n (by omega) (by omega) (by omega)
end
end K34

set_option maxHeartbeats 4000000
namespace K34
open PySem PySem.Spec PyProof.Rows L2 AT
theorem tr_ex (cs : List Cue) : trS (fun b => !b) mOne (trS (fun b => !b) mOne cs) = cs := by
  unfold trS
  rw [List.map_map]
  refine (List.map_congr_left fun c _ => ?_).trans (List.map_id _)
  obtain ⟨a, b, u, q⟩ := c
  show (a, b, !(!u), 1 * (1 * q)) = (a, b, u, q)
  rw [Rat.one_mul, Rat.one_mul, Bool.not_not]
theorem tr_neg (cs : List Cue) : trS (fun b => b) mNeg (trS (fun b => b) mNeg cs) = cs := by
  unfold trS
  rw [List.map_map]
  refine (List.map_congr_left fun c _ => ?_).trans (List.map_id _)
  obtain ⟨a, b, u, q⟩ := c
  show (a, b, u, (-1 : Rat) * (-1 * q)) = (a, b, u, q)
  rw [show (-1 : Rat) * (-1 * q) = q by grind]
theorem tr_at1 (u : Bool) (cs : List Cue) : trS (fun b => b) (mAt u 1) cs = cs := by
  refine (List.map_congr_left fun c _ => ?_).trans (List.map_id _)
  obtain ⟨a, b, v, q⟩ := c
  show (a, b, v, (if v = u then (1 : Rat) else 1) * q) = (a, b, v, q)
  rw [ite_self, Rat.one_mul]
theorem tr_at2 (u : Bool) (x y : Rat) (cs : List Cue) : trS (fun b => b) (mAt u y) (trS (fun b => b) (mAt u x) cs) = trS (fun b => b) (mAt u (x * y)) cs := by
  unfold trS
  rw [List.map_map]
  refine List.map_congr_left fun c _ => ?_
  obtain ⟨a, b, v, q⟩ := c
  show (a, b, v, (if v = u then y else 1) * ((if v = u then x else 1) * q)) = (a, b, v, (if v = u then x * y else 1) * q)
  have e : (if v = u then y else 1) * ((if v = u then x else 1) * q) = (if v = u then x * y else 1) * q := by
    split <;> grind
  rw [e]
section
variable {P : Program} {w : World} {K : PySem.W.Frag} {mg : Str → Option Value} {base : Heap}
def spTrR (K : PySem.W.Frag) : Sp := fun vs H Q _ => ∃ p n s C cs, vs = [.ref p, .ref s, .ref C] ∧ BoxAt H p n ∧ n ≤ 5000 ∧ C ≠ p ∧ ShtOk K H s cs ∧ CsL H C cs ∧ (∀ c ∈ cs, SmQ c.2.2.2) ∧ ∀ H', SameX p H H' → BoxAt H' p (n + 5) → Q (.bl true) H'
theorem sc_w_turned_right : FnScope ["_law_box_here", "_law_sheet", "_law_cues_here", "_law_other", "_law_name", "_law_parent", "_law_unit", "_law_amount_here", "_law_due_here", "_law_back", "_law_one", "_law_two", "_law_by", "_law_more", "_law_wide", "_law_both", "_law_twice"] ["_law_box_here", "_law_sheet", "_law_cues_here"] (defScope s_w_turned_right) := ⟨rfl, rfl, rfl, by decide +kernel, rfl, by decide +kernel, by decide +kernel⟩
theorem ok_w_turned_right (T : Tx K mg base) : Ok P w K mg base 16 (d_w_turned_right.loc K) ["_law_box_here", "_law_sheet", "_law_cues_here"] (spTrR K) := by
  refine mk_ok (k := 15) T.f_w_turned_right sc_w_turned_right (fun _ _ _ _ _ _ us hl => match us, hl with | [_, _, _], _ => rfl) (fun vs H Q E h => ?_) (fun cdv A outer s H vs Q E hr h => ?_)
  · obtain ⟨p, n, s, C, cs, rfl, _⟩ := h
    rfl
  · obtain ⟨p, n, s, C, cs, rfl, hb, hn, nC, hs, hcs, hsm, k⟩ := h
    refine ⟨_, (Evl.pss_cut (ps_set (i := 3) sc_w_turned_right.nd rfl (Or.inr rfl) (pe_disp (pps_cons pe_str pe_str (pps_cons pe_str pe_str pps_nil)) (by rfl) (by rfl) (fun z => by cases z) (by decide)))
      (Evl.pss_cut (ps_setLc (i := 8) (own := [("_law_name", 4), ("_law_parent", 5), ("_law_unit", 6), ("_law_amount_here", 7)]) (g := (gTup K 4 (gCons (gName 4) (gCons (gName 5) (gCons (gName 6) (gCons (gName 7) gNil)))))) (tt := tYes) (by rfl) sc_w_turned_right.nd rfl rfl (sw_true rfl rfl rfl (by decide +kernel)) (pi_list (pv 2)) (blkOk_by (own := [("_law_name", 4), ("_law_parent", 5), ("_law_unit", 6), ("_law_amount_here", 7)]) (N := ["_law_box_here", "_law_sheet", "_law_cues_here", "_law_other", "_law_name", "_law_parent", "_law_unit", "_law_amount_here", "_law_due_here", "_law_back", "_law_one", "_law_two", "_law_by", "_law_more", "_law_wide", "_law_both", "_law_twice"]) (sc := defScope s_w_turned_right) (by decide +kernel)) (fun _ _ _ _ _ => (pg_tup rfl (pgs_cons (pg_name (i := 4) sc_w_turned_right.nd rfl (Or.inl rfl)) (pgs_cons (pg_name (i := 5) sc_w_turned_right.nd rfl (Or.inl rfl)) (pgs_cons (pg_name (i := 6) sc_w_turned_right.nd rfl (Or.inl rfl)) (pgs_cons (pg_name (i := 7) sc_w_turned_right.nd rfl (Or.inl rfl)) pgs_nil)))))) (fun _ _ _ _ _ => pts_nil) (fun _ _ _ _ _ => (pe_tup (pa_cons (pv 4) (pa_cons (pv 5) (pa_cons (pe_dget (by exact hu_of hr) (pv 3) (pv 6) (fun _ _ => rfl)) (pa_cons (pv 7) pa_nil)))))))
      (Evl.pss_cut (ps_setLc (i := 9) (own := [("_law_name", 4), ("_law_parent", 5), ("_law_unit", 6), ("_law_amount_here", 7)]) (g := (gTup K 4 (gCons (gName 4) (gCons (gName 5) (gCons (gName 6) (gCons (gName 7) gNil)))))) (tt := tYes) (by rfl) sc_w_turned_right.nd rfl rfl (sw_true rfl rfl rfl (by decide +kernel)) (pi_list (pv 2)) (blkOk_by (own := [("_law_name", 4), ("_law_parent", 5), ("_law_unit", 6), ("_law_amount_here", 7)]) (N := ["_law_box_here", "_law_sheet", "_law_cues_here", "_law_other", "_law_name", "_law_parent", "_law_unit", "_law_amount_here", "_law_due_here", "_law_back", "_law_one", "_law_two", "_law_by", "_law_more", "_law_wide", "_law_both", "_law_twice"]) (sc := defScope s_w_turned_right) (by decide +kernel)) (fun _ _ _ _ _ => (pg_tup rfl (pgs_cons (pg_name (i := 4) sc_w_turned_right.nd rfl (Or.inl rfl)) (pgs_cons (pg_name (i := 5) sc_w_turned_right.nd rfl (Or.inl rfl)) (pgs_cons (pg_name (i := 6) sc_w_turned_right.nd rfl (Or.inl rfl)) (pgs_cons (pg_name (i := 7) sc_w_turned_right.nd rfl (Or.inl rfl)) pgs_nil)))))) (fun _ _ _ _ _ => pts_nil) (fun _ _ _ _ _ => (pe_tup (pa_cons (pv 4) (pa_cons (pv 5) (pa_cons (pv 6) (pa_cons (pe_tup (pa_cons (pe_op op_sub pe_int (pe_ix (show IxR _ (rIxT K) from ix_tup) (pv 7) pe_int (fun _ _ => rfl))) (pa_cons (pe_ix (show IxR _ (rIxT K) from ix_tup) (pv 7) pe_int (fun _ _ => rfl)) pa_nil))) pa_nil)))))))
      (pss_cons (ps_par (by rfl) sc_w_turned_right.nd (i := 10) (j := 11) rfl rfl (by decide) rfl rfl (pa_cons (ok_call (ok_exchanged T) (hr.mono (by decide)) rfl T.g_exchanged (passE rfl rfl rfl rfl) (pa_cons (pv 1) pa_nil)) (pa_cons (ok_call (ok_reversed_sheet T) (hr.mono (by decide)) rfl T.g_reversed_sheet (passE rfl rfl rfl rfl) (pa_cons (pv 1) pa_nil)) pa_nil)) (by rfl))
      (pss_cons (ps_if (PW.pt (pw_or (pt_cmpR (op_neD hr.units) (ok_call (ok_w_plain T) (hr.mono (by decide)) rfl T.g_w_plain passL (pa_cons (pv 10) pa_nil)) (pv 8) (nomark _)) (pw_or (pt_cmpR (op_neD hr.units) (ok_call (ok_w_plain T) (hr.mono (by decide)) rfl T.g_w_plain passL (pa_cons (pv 11) pa_nil)) (pv 9) (nomark _)) (pw_or (pt_cmpR (op_neO T.eq_Sheet (ok_Sheet_eq_ T) (hr.mono (by decide)) passL) (ok_call (ok_exchanged T) (hr.mono (by decide)) rfl T.g_exchanged (passE rfl rfl rfl rfl) (pa_cons (pv 10) pa_nil)) (pv 1) (nomark _)) (pw_or1 (pt_cmpR (op_neO T.eq_Sheet (ok_Sheet_eq_ T) (hr.mono (by decide)) passL) (ok_call (ok_reversed_sheet T) (hr.mono (by decide)) rfl T.g_reversed_sheet (passE rfl rfl rfl rfl) (pa_cons (pv 11) pa_nil)) (pv 1) (nomark _))))))) (pss_one (ps_ret pe_bl)) pss_nil)
      (Evl.pss_cut (ps_par (by rfl) sc_w_turned_right.nd (i := 6) (j := 12) rfl rfl (by decide) rfl rfl (pa_cons (pe_ix ix_list (pe_lst (pa_cons pe_str (pa_cons pe_str pa_nil))) (ok_call (ok_w_take T) (hr.mono (by decide)) rfl T.g_w_take passL (pa_cons (pv 0) (pa_cons pe_int pa_nil))) (fun _ _ => rfl)) (pa_cons (ok_call (ok_w_lowest T) (hr.mono (by decide)) rfl T.g_w_lowest passL (pa_cons (pe_op op_add pe_int (ok_call (ok_w_take T) (hr.mono (by decide)) rfl T.g_w_take passL (pa_cons (pv 0) (pa_cons pe_int pa_nil)))) (pa_cons (pe_op op_add pe_int (ok_call (ok_w_take T) (hr.mono (by decide)) rfl T.g_w_take passL (pa_cons (pv 0) (pa_cons pe_int pa_nil)))) pa_nil))) pa_nil)) (by rfl))
      (Evl.pss_cut (ps_set (i := 13) sc_w_turned_right.nd rfl (Or.inl rfl) (ok_call (ok_w_lowest T) (hr.mono (by decide)) rfl T.g_w_lowest passL (pa_cons (pe_op op_add pe_int (ok_call (ok_w_take T) (hr.mono (by decide)) rfl T.g_w_take passL (pa_cons (pv 0) (pa_cons pe_int pa_nil)))) (pa_cons (pe_op op_add pe_int (ok_call (ok_w_take T) (hr.mono (by decide)) rfl T.g_w_take passL (pa_cons (pv 0) (pa_cons pe_int pa_nil)))) pa_nil))))
      (Evl.pss_cut (ps_set (i := 14) sc_w_turned_right.nd rfl (Or.inl rfl) (ok_call (ok_stretched T) (hr.mono (by decide)) rfl T.g_stretched (passE rfl rfl rfl rfl) (pa_cons (pv 1) (pa_cons (pv 6) (pa_cons (ok_make T.mkr_Amount (ok_Amount_init_ T) (hr.mono (by decide)) rfl T.g_Amount (passE rfl rfl rfl rfl) (pa_cons (pe_ix ix_tup (pv 12) pe_int (fun _ _ => rfl)) (pa_cons (pe_ix ix_tup (pv 12) pe_int (fun _ _ => rfl)) pa_nil))) pa_nil)))))
      (pss_cons (ps_if (PW.pt (pw_or (pt_cmpR (op_neD hr.units) (ok_call (ok_w_plain T) (hr.mono (by decide)) rfl T.g_w_plain passL (pa_cons (pv 14) pa_nil)) (ok_call (ok_w_times T) (hr.mono (by decide)) rfl T.g_w_times passL (pa_cons (pv 2) (pa_cons (pv 6) (pa_cons (pv 12) pa_nil)))) (nomark _)) (pw_or1 (pt_cmpR (op_neO T.eq_Sheet (ok_Sheet_eq_ T) (hr.mono (by decide)) passL) (ok_call (ok_stretched T) (hr.mono (by decide)) rfl T.g_stretched (passE rfl rfl rfl rfl) (pa_cons (pv 1) (pa_cons (pv 6) (pa_cons pe_int pa_nil)))) (pv 1) (nomark _))))) (pss_one (ps_ret pe_bl)) pss_nil)
      (pss_cons (ps_if (pt_cmpR (op_neD hr.units) (ok_call (ok_w_plain T) (hr.mono (by decide)) rfl T.g_w_plain passL (pa_cons (ok_call (ok_stretched T) (hr.mono (by decide)) rfl T.g_stretched (passE rfl rfl rfl rfl) (pa_cons (pv 1) (pa_cons (pv 6) (pa_cons pe_int pa_nil)))) pa_nil)) (ok_call (ok_w_times T) (hr.mono (by decide)) rfl T.g_w_times passL (pa_cons (pv 2) (pa_cons (pv 6) (pa_cons (pe_tup (pa_cons pe_int (pa_cons pe_int pa_nil))) pa_nil)))) (nomark _)) (pss_one (ps_ret pe_bl)) pss_nil)
      (Evl.pss_cut (ps_set (i := 15) sc_w_turned_right.nd rfl (Or.inl rfl) (ok_call (ok_w_lowest T) (hr.mono (by decide)) rfl T.g_w_lowest passL (pa_cons (pe_op op_mulW (pe_ix ix_tup (pv 12) pe_int (fun _ _ => rfl)) (pe_ix ix_tup (pv 13) pe_int (fun _ _ => rfl))) (pa_cons (pe_op op_mulW (pe_ix ix_tup (pv 12) pe_int (fun _ _ => rfl)) (pe_ix ix_tup (pv 13) pe_int (fun _ _ => rfl))) pa_nil))))
      (Evl.pss_cut (ps_set (i := 16) sc_w_turned_right.nd rfl (Or.inl rfl) (ok_call (ok_stretched T) (hr.mono (by decide)) rfl T.g_stretched (passE rfl rfl rfl rfl) (pa_cons (pv 14) (pa_cons (pv 6) (pa_cons (ok_make T.mkr_Amount (ok_Amount_init_ T) (hr.mono (by decide)) rfl T.g_Amount (passE rfl rfl rfl rfl) (pa_cons (pe_ix ix_tup (pv 13) pe_int (fun _ _ => rfl)) (pa_cons (pe_ix ix_tup (pv 13) pe_int (fun _ _ => rfl)) pa_nil))) pa_nil)))))
      (pss_one (ps_ret (pe_and (pe_cmpR (op_eqO T.eq_Sheet (ok_Sheet_eq_ T) (hr.mono (by decide)) passL) (pv 16) (ok_call (ok_stretched T) (hr.mono (by decide)) rfl T.g_stretched (passE rfl rfl rfl rfl) (pa_cons (pv 1) (pa_cons (pv 6) (pa_cons (ok_make T.mkr_Amount (ok_Amount_init_ T) (hr.mono (by decide)) rfl T.g_Amount (passE rfl rfl rfl rfl) (pa_cons (pe_ix ix_tup (pv 15) pe_int (fun _ _ => rfl)) (pa_cons (pe_ix ix_tup (pv 15) pe_int (fun _ _ => rfl)) pa_nil))) pa_nil)))) (nomark _)) (pe_one (pe_cmpR (op_eqD hr.units) (ok_call (ok_w_plain T) (hr.mono (by decide)) rfl T.g_w_plain passL (pa_cons (pv 1) pa_nil)) (pv 2) (nomark _)))))))))))))))))), ?_⟩
    have hsz : sizeLine = 16777216 := sizeLine_eq
    have hok := hs.2.1
    have hmom := hs.2.2
    have hcl := hok.len
    obtain ⟨xs, hC, hx⟩ := id hcs
    have hxl := hx.length
    refine ⟨fun σ' H1 => ∃ d kvO, σ' = ([some (.ref p), some (.ref s), some (.ref C), some (.ref d), none, none, none, none, none, none, none, none, none, none, none, none, none] : L2.St) ∧ Same H H1 ∧ H1 d = some (.dK kvO) ∧ ∀ u, valV kvO (Sum.inr (uS u)) = some (.str (uS (!u))), ?_, ?_⟩
    · refine fun d gd => ⟨upd_same, [(Sum.inr "beats", .str "seconds"), (Sum.inr "seconds", .str "beats")], rfl, (by show 2 ≤ 15; decide), ?_⟩
      exact ⟨d, [(Sum.inr "beats", .str "seconds"), (Sum.inr "seconds", .str "beats")], rfl, AT.Same.new (AT.Same.up gd) gd, upd_same, oth_dict⟩
    rintro σ' H1 ⟨d, kvO, rfl, s1, hd1, hO⟩
    refine ⟨fun σ' H2 => ∃ F, σ' = ([some (.ref p), some (.ref s), some (.ref C), some (.ref d), none, none, none, none, some (.ref F), none, none, none, none, none, none, none, none] : L2.St) ∧ Same H1 H2 ∧ CsL H2 F (trS (fun b => !b) mOne cs), ?_, ?_⟩
    · refine ⟨_, rfl, C, rfl, ⟨_, SqL.of (s1 _ _ hC)⟩, fun F gF => ?_⟩
      refine lc_list (K := K) (a := C) (xs := xs) (fun j H' => Same H1 H' ∧ ∃ ys, H' F = some (.lst ys) ∧ Paired (CuL H') ys (trS (fun b => !b) mOne (cs.take j))) ⟨AT.Same.up gF, [], upd_same, .nil⟩ (fun j H' _ hP => SqL.of (hP.1 _ _ (s1 _ _ hC))) (fun j x H' hxj hP => ?_) (fun H2 hP => ?_)
      · obtain ⟨sm, ys, hys, hy⟩ := hP
        obtain ⟨c, hc, t, pr, rfl, ht, hpr⟩ := prd_getL hx hxj
        have hyl := hy.length
        rw [List.length_map, List.length_take] at hyl
        have ht' := sm _ _ (s1 _ _ ht)
        have hpr' := sm _ _ (s1 _ _ hpr)
        refine ⟨t, _, rfl, SqT.of ht', rfl, _, _, rfl, _, _, rfl, _, _, rfl, _, _, rfl, rfl, rfl, ?_⟩
        dsimp only [tYes]
        refine iteT ⟨_, rfl, _, rfl, _, rfl, _, rfl, d, _, rfl, .inl ⟨kvO, Sum.inr (uS c.2.2.1), .inl (sm _ _ hd1), rfl, (hO c.2.2.1).symm⟩, _, rfl, (by show 4 ≤ sizeLine; omega), fun t2 g2 => ?_⟩
        have sA := AT.Same.up (o := .tup [.str c.1, .str c.2.1, .str (uS (!c.2.2.1)), .ref pr]) g2
        have tu : TT (upd H' t2 (.tup [.str c.1, .str c.2.1, .str (uS (!c.2.2.1)), .ref pr])) (upd (upd H' t2 (.tup [.str c.1, .str c.2.1, .str (uS (!c.2.2.1)), .ref pr])) F (.lst (ys ++ [.ref t2]))) := TT.up (sA _ _ hys) (fun _ z => nomatch z)
        refine ⟨ys, sA _ _ hys, (by omega), AT.Same.new (sm.trans sA) gF, _, upd_same, ?_⟩
        rw [List.take_add_one, hc, Option.toList_some, show ∀ (f : Bool → Bool) (m : Bool → Rat) (l : List Cue) (c : Cue), trS f m (l ++ [c]) = trS f m l ++ [PR.trC f m c] from fun f m l c => List.map_append]
        refine prd_app (Paired.mapP hy fun _ _ z => z.up ((TT.of sA).trans tu)) (.cons ⟨t2, pr, rfl, tu _ _ upd_same, ?_⟩ .nil)
        show _ = some (pairQ (mOne c.2.2.1 * c.2.2.2))
        rw [show mOne c.2.2.1 * c.2.2.2 = c.2.2.2 from Rat.one_mul _]
        exact tu _ _ (sA _ _ hpr')
      obtain ⟨sm1, ys1, hF1, hy1⟩ := hP
      rw [hxl, List.take_length] at hy1
      exact ⟨F, rfl, sm1, ys1, hF1, hy1⟩
    rintro σ' H2 ⟨F, rfl, sm1, hdue⟩
    have s2 := s1.trans sm1
    refine ⟨fun σ' H3 => ∃ G, σ' = ([some (.ref p), some (.ref s), some (.ref C), some (.ref d), none, none, none, none, some (.ref F), some (.ref G), none, none, none, none, none, none, none] : L2.St) ∧ Same H2 H3 ∧ CsL H3 G (trS (fun b => b) mNeg cs), ?_, ?_⟩
    · refine ⟨_, rfl, C, rfl, ⟨_, SqL.of (s2 _ _ hC)⟩, fun G gG => ?_⟩
      refine lc_list (K := K) (a := C) (xs := xs) (fun j H' => Same H2 H' ∧ ∃ ys, H' G = some (.lst ys) ∧ Paired (CuL H') ys (trS (fun b => b) mNeg (cs.take j))) ⟨AT.Same.up gG, [], upd_same, .nil⟩ (fun j H' _ hP => SqL.of (hP.1 _ _ (s2 _ _ hC))) (fun j x H' hxj hP => ?_) (fun H3 hP => ?_)
      · obtain ⟨sm, ys, hys, hy⟩ := hP
        obtain ⟨c, hc, t, pr, rfl, ht, hpr⟩ := prd_getL hx hxj
        have hyl := hy.length
        rw [List.length_map, List.length_take] at hyl
        have ht' := sm _ _ (s2 _ _ ht)
        have hpr' := sm _ _ (s2 _ _ hpr)
        refine ⟨t, _, rfl, SqT.of ht', rfl, _, _, rfl, _, _, rfl, _, _, rfl, _, _, rfl, rfl, rfl, ?_⟩
        dsimp only [tYes]
        refine iteT ⟨_, rfl, _, rfl, _, rfl, _, rfl, pr, _, 0, _, rfl, rfl, SqT.of hpr', rfl, _, _, rfl, rfl, _, rfl, pr, _, 1, _, rfl, rfl, SqT.of hpr', rfl, (by show 2 ≤ sizeLine; omega), fun t1 g1 => ⟨(by show 4 ≤ sizeLine; omega), fun t2 g2 => ?_⟩⟩
        have sB := AT.Same.up (o := .tup [.int (0 - c.2.2.2.num), .int c.2.2.2.den]) g1
        have sA := AT.Same.up (o := .tup [.str c.1, .str c.2.1, .str (uS c.2.2.1), .ref t1]) g2
        have sBA := sB.trans sA
        have tu : TT (upd (upd H' t1 (.tup [.int (0 - c.2.2.2.num), .int c.2.2.2.den])) t2 (.tup [.str c.1, .str c.2.1, .str (uS c.2.2.1), .ref t1])) (upd (upd (upd H' t1 (.tup [.int (0 - c.2.2.2.num), .int c.2.2.2.den])) t2 (.tup [.str c.1, .str c.2.1, .str (uS c.2.2.1), .ref t1])) G (.lst (ys ++ [.ref t2]))) := TT.up (sBA _ _ hys) (fun _ z => nomatch z)
        refine ⟨ys, sBA _ _ hys, (by omega), AT.Same.new (sm.trans sBA) gG, _, upd_same, ?_⟩
        rw [List.take_add_one, hc, Option.toList_some, show ∀ (f : Bool → Bool) (m : Bool → Rat) (l : List Cue) (c : Cue), trS f m (l ++ [c]) = trS f m l ++ [PR.trC f m c] from fun f m l c => List.map_append]
        refine prd_app (Paired.mapP hy fun _ _ z => z.up ((TT.of sBA).trans tu)) (.cons ⟨t2, t1, rfl, tu _ _ upd_same, ?_⟩ .nil)
        show _ = some (pairQ (mNeg c.2.2.1 * c.2.2.2))
        rw [show mNeg c.2.2.1 * c.2.2.2 = -c.2.2.2 by unfold mNeg; grind, show pairQ (-c.2.2.2) = .tup [.int (0 - c.2.2.2.num), .int c.2.2.2.den] by unfold pairQ; rw [Rat.neg_num, Rat.neg_den, Int.zero_sub]]
        exact tu _ _ (sA _ _ upd_same)
      obtain ⟨sm2, ys2, hG1, hy2⟩ := hP
      rw [hxl, List.take_length] at hy2
      exact ⟨G, rfl, sm2, ys2, hG1, hy2⟩
    rintro σ' H3 ⟨G, rfl, sm2, hback⟩
    have s3 := s2.trans sm2
    have hdue3 := hdue.up sm2
    have z1 : ∀ c ∈ cs, SzB 1 (mOne c.2.2.1 * c.2.2.2) := fun c hc => by
      rw [show mOne c.2.2.1 * c.2.2.2 = c.2.2.2 from Rat.one_mul _]
      exact b10_sz (hsm c hc)
    have zn : ∀ c ∈ cs, SzB 1 (mNeg c.2.2.1 * c.2.2.2) := fun c hc => by
      rw [show mNeg c.2.2.1 * c.2.2.2 = -c.2.2.2 by unfold mNeg; grind]
      exact b10_sz (b10_neg (hsm c hc))
    refine ⟨_, rfl, _, rfl, .inl ⟨s, cs, rfl, hs.up s3, z1, fun P1 H4 s4 g4 hP1 => ⟨_, rfl, _, rfl, .inl ⟨s, cs, rfl, (hs.up s3).up s4, zn, fun P2 H5 s5 g5 hP2 => ⟨_, _, rfl, ?_⟩⟩⟩⟩⟩
    have z11 : ∀ c ∈ trS (fun b => !b) mOne cs, SzB 1 (mOne c.2.2.1 * c.2.2.2) := fun c hc => by
      obtain ⟨e, he, rfl⟩ := List.mem_map.mp hc
      show SzB 1 (1 * (mOne e.2.2.1 * e.2.2.2))
      rw [Rat.one_mul]
      exact z1 e he
    have znn : ∀ c ∈ trS (fun b => b) mNeg cs, SzB 1 (mNeg c.2.2.1 * c.2.2.2) := fun c hc => by
      obtain ⟨e, he, rfl⟩ := List.mem_map.mp hc
      show SzB 1 (-1 * (-1 * e.2.2.2))
      rw [show (-1 : Rat) * (-1 * e.2.2.2) = e.2.2.2 by grind]
      exact b10_sz (hsm e he)
    have ok1 := tr_ok (s := fun b => !b) (m := mOne) hok z1
    have ok2 := tr_ok (s := fun b => b) (m := mNeg) hok zn
    have s45 := s4.trans s5
    -- told as they are due
    refine ⟨_, rfl, P1, _, rfl, hP1.up s5, fun D5 H6 s6 g6 hD5 => ⟨_, rfl, cuesD _, cuesD _, hD5.dp, ((hdue3.up s45).up s6).dp, cuesD_shaped ok1.strs, cuesD_shaped ok1.strs, false, (by rw [cuesD_eqv, decide_eq_true rfl]; rfl), iteF ?_⟩⟩
    have s56 := s5.trans s6
    refine ⟨_, rfl, P2, _, rfl, hP2.up s6, fun D6 H7 s7 g7 hD6 => ⟨_, rfl, cuesD _, cuesD _, hD6.dp, (((hback.up s45).up s6).up s7).dp, cuesD_shaped ok2.strs, cuesD_shaped ok2.strs, false, (by rw [cuesD_eqv, decide_eq_true rfl]; rfl), iteF ?_⟩⟩
    have s67 := s6.trans s7
    have hs7 := ((hs.up s3).up s45).up s67
    refine ⟨_, rfl, _, rfl, .inl ⟨P1, _, rfl, (hP1.up s5).up s67, (fun c hc => z11 c hc), fun Q1 H8 s8 g8 hQ1 => ?_⟩⟩
    obtain ⟨dq1, fq1, lq1, mq1, hq1, _⟩ := hQ1.at
    refine ⟨_, rfl, Q1, dq1, fq1, rfl, hq1, (hs7.up s8).ofTy T, Q1, s, _, cs, rfl, hQ1, hs7.up s8, fun H9 s9 => ⟨_, rfl, false, congrArg V.bl (congrArg (fun b => !b) (decide_eq_true (tr_ex cs))), iteF ?_⟩⟩
    have s79 := s8.trans s9
    refine ⟨_, rfl, _, rfl, .inl ⟨P2, _, rfl, (hP2.up s67).up s79, (fun c hc => znn c hc), fun Q2 H10 s10 g10 hQ2 => ?_⟩⟩
    obtain ⟨dq2, fq2, lq2, mq2, hq2, _⟩ := hQ2.at
    have hs10 := (hs7.up s79).up s10
    refine ⟨_, rfl, Q2, dq2, fq2, rfl, hq2, hs10.ofTy T, Q2, s, _, cs, rfl, hQ2, hs10, fun H11 s11 => ⟨_, rfl, false, congrArg V.bl (congrArg (fun b => !b) (decide_eq_true (tr_neg cs))), iteF ?_⟩⟩
    have sall := (((s3.trans s45).trans s67).trans s79).trans (s10.trans s11)
    have b11 := hb.up sall
    have hs11 := hs10.up s11
    have hC11 := sall _ _ hC
    have hcs11 := hcs.up sall
    -- the factors
    refine ⟨fun σ' H12 => ∃ u pa qa, σ' = ([some (.ref p), some (.ref s), some (.ref C), some (.ref d), none, none, some (.str (uS u)), none, some (.ref F), some (.ref G), some (.ref P1), some (.ref P2), some (.ref pa), none, none, none, none] : L2.St) ∧ SameX p H11 H12 ∧ BoxAt H12 p (n + 3) ∧ H12 pa = some (pairQ qa) ∧ 0 < qa ∧ Bits 4 qa, ?_, ?_⟩
    · refine ⟨(by show 2 ≤ sizeLine; omega), fun L gL => ?_⟩
      have sL := AT.Same.up (o := .lst [.str "beats", .str "seconds"]) gL
      have nL : L ≠ p := box_ne2 b11 gL
      refine ⟨_, rfl, p, _, _, rfl, b11.up sL, (by omega), (by decide), (by decide +kernel), fun r0 J0 h0 h0' y0 e0 => ?_⟩
      obtain ⟨u, hu⟩ : ∃ u, atI [V.str "beats", V.str "seconds"] r0 = some (.str (uS u)) := by
        obtain rfl | rfl : r0 = 0 ∨ r0 = 1 := by omega
        · exact ⟨true, rfl⟩
        · exact ⟨false, rfl⟩
      refine ⟨L, _, _, _, rfl, rfl, SqL.of (y0 _ _ nL upd_same), hu, ?_⟩
      refine ⟨_, rfl, p, _, _, rfl, e0, (by omega), (by decide), (by decide +kernel), fun r1 J1 h1 h1' y1 e1 => ⟨_, _, rfl, rfl, _, rfl, p, _, _, rfl, e1, (by omega), (by decide), (by decide +kernel), fun r2 J2 h2 h2' y2 e2 => ⟨_, _, rfl, rfl, ?_⟩⟩⟩
      obtain ⟨f1, f2⟩ := frac_pos (a := 1 + r1) (b := 1 + r2) (by omega) (by omega) (by omega) (by omega)
      refine ⟨_, _, rfl, (by omega), big (by omega), big (by omega), fun pa J3 s13 g13 hpa => ⟨_, _, rfl, u, pa, _, rfl, ((sameX_of sL).trans y0).trans ((y1.trans y2).trans (sameX_of s13)), (e2.up s13).mono (by omega), hpa, f1, f2⟩⟩
    rintro σ' H12 ⟨u, pa, qa, rfl, x12, b12, hpa, a0, ab⟩
    have nCp : C ≠ p := nC
    have hs12 := hs11.upX b11 x12
    have hcs12 := hcs11.upX b11 x12 nC
    refine ⟨fun σ' H13 => ∃ pm qm, σ' = ([some (.ref p), some (.ref s), some (.ref C), some (.ref d), none, none, some (.str (uS u)), none, some (.ref F), some (.ref G), some (.ref P1), some (.ref P2), some (.ref pa), some (.ref pm), none, none, none] : L2.St) ∧ SameX p H12 H13 ∧ BoxAt H13 p (n + 5) ∧ H13 pm = some (pairQ qm) ∧ 0 < qm ∧ Bits 4 qm, ?_, ?_⟩
    · refine ⟨_, rfl, p, _, _, rfl, b12, (by omega), (by decide), (by decide +kernel), fun r1 J1 h1 h1' y1 e1 => ⟨_, _, rfl, rfl, _, rfl, p, _, _, rfl, e1, (by omega), (by decide), (by decide +kernel), fun r2 J2 h2 h2' y2 e2 => ⟨_, _, rfl, rfl, ?_⟩⟩⟩
      obtain ⟨f1, f2⟩ := frac_pos (a := 1 + r1) (b := 1 + r2) (by omega) (by omega) (by omega) (by omega)
      exact ⟨_, _, rfl, (by omega), big (by omega), big (by omega), fun pm J3 s13 g13 hpm => ⟨pm, _, rfl, (y1.trans y2).trans (sameX_of s13), (e2.up s13).mono (by omega), hpm, f1, f2⟩⟩
    rintro σ' H13 ⟨pm, qm, rfl, x13, b13, hpm, m0, mb⟩
    have hs13 := hs12.upX b12 x13
    have hcs13 := hcs12.upX b12 x13 nC
    have hpa13 := (SameX.tt b12 x13) _ _ hpa
    have szq : ∀ (x : Rat) (j : Nat), Bits j x → j ≤ 9 → ∀ c ∈ cs, SzB 1 (mAt u x c.2.2.1 * c.2.2.2) := fun x j hx hj c hc => by
      have hc2 := (hsm c hc).b
      unfold mAt
      split
      · exact ⟨(hx.mul hc2).mono (by omega), Nat.le_refl _⟩
      · rw [Rat.one_mul]
        exact b10_sz (hsm c hc)
    -- stretched by the first factor
    refine ⟨fun σ' H14 => ∃ W, σ' = ([some (.ref p), some (.ref s), some (.ref C), some (.ref d), none, none, some (.str (uS u)), none, some (.ref F), some (.ref G), some (.ref P1), some (.ref P2), some (.ref pa), some (.ref pm), some (.ref W), none, none] : L2.St) ∧ Same H13 H14 ∧ ShtOk K H14 W (trS (fun b => b) (mAt u qa) cs), ?_, ?_⟩
    · refine ⟨_, rfl, _, rfl, _, rfl, pa, _, 0, _, rfl, rfl, SqT.of hpa13, rfl, _, rfl, pa, _, 1, _, rfl, rfl, SqT.of hpa13, rfl, mk_amtQ ab (by decide) fun r J1 t1 gr hr => ⟨_, _, _, rfl, .inr ⟨s, cs, rfl, hs13.up t1, .str _, .inr ⟨u, rfl, (Qv.obj hr).any, .inr ⟨qa, .obj hr, a0, ab.mono (by decide), szq qa 4 ab (by decide), fun W J2 t2 gW hW => ⟨W, rfl, t1.trans t2, hW⟩⟩⟩⟩⟩⟩
    rintro σ' H14 ⟨W, rfl, s14, hW⟩
    have hs14 := hs13.up s14
    have hcs14 := hcs13.up s14
    have hpa14 := s14 _ _ hpa13
    have hpm14 := s14 _ _ hpm
    have hb100 : ∀ c ∈ cs, Bits 100 c.2.2.2 := fun c hc => (hsm c hc).b.mono (by decide)
    have okW := (tr_ok (s := fun b => b) (m := mAt u qa) hok (szq qa 4 ab (by decide))).strs
    have i1 : Bits 4 ((1 : Int) : Rat) := ⟨by decide +kernel, by decide +kernel⟩
    have i3 : Bits 4 ((3 : Int) : Rat) := ⟨by decide +kernel, by decide +kernel⟩
    have ok3 := (tr_ok (s := fun b => b) (m := mAt u ((3 : Int) : Rat)) hok (szq _ 4 i3 (by decide))).strs
    refine ⟨_, rfl, W, _, rfl, hW, fun D1 J1 t1 g1 hD1 => ⟨_, rfl, _, rfl, _, rfl, C, cs, u, _, qa, rfl, hcs14.up t1, ⟨pa, rfl, t1 _ _ hpa14⟩, (by omega), ab.mono (by decide), hb100, fun D2 J2 t2 g2 hD2 => ⟨cuesD _, cuesD _, (hD1.up t2).dp, hD2.dp, cuesD_shaped okW, cuesD_shaped okW, false, (by rw [cuesD_eqv, decide_eq_true rfl]; rfl), iteF ?_⟩⟩⟩
    have t12 := t1.trans t2
    have hsA := hs14.up t12
    refine ⟨_, rfl, _, rfl, _, _, _, rfl, .inr ⟨s, cs, rfl, hsA, .str _, .inr ⟨u, rfl, .int 1, .inr ⟨((1 : Int) : Rat), .int 1, (by decide +kernel), i1.mono (by decide), szq _ 4 i1 (by decide), fun W1 J3 t3 g3 hW1 => ?_⟩⟩⟩⟩
    obtain ⟨dw1, fw1, lw1, mw1, hw1, _⟩ := hW1.at
    have e1 : trS (fun b => b) (mAt u ((1 : Int) : Rat)) cs = cs := tr_at1 u cs
    refine ⟨_, rfl, W1, dw1, fw1, rfl, hw1, (hsA.up t3).ofTy T, W1, s, _, cs, rfl, hW1, hsA.up t3, fun J4 t4 => ⟨_, rfl, false, congrArg V.bl (congrArg (fun b => !b) (decide_eq_true e1)), iteF ?_⟩⟩
    have t34 := t3.trans t4
    have hsB := hsA.up t34
    have hcsB := (hcs14.up t12).up t34
    refine ⟨_, rfl, _, rfl, _, _, _, rfl, .inr ⟨s, cs, rfl, hsB, .str _, .inr ⟨u, rfl, .int 3, .inr ⟨((3 : Int) : Rat), .int 3, (by decide +kernel), i3.mono (by decide), szq _ 4 i3 (by decide), fun W3 J5 t5 g5 hW3 => ?_⟩⟩⟩⟩
    refine ⟨W3, _, rfl, hW3, fun D3 J6 t6 g6 hD3 => ⟨_, rfl, _, rfl, (by show 2 ≤ sizeLine; omega), fun tp gtp => ?_⟩⟩
    have sP := AT.Same.up (o := .tup [.int 3, .int 1]) gtp
    have hcsC := ((hcsB.up t5).up t6).up sP
    refine ⟨C, cs, u, _, ((3 : Int) : Rat), rfl, hcsC, ⟨tp, rfl, upd_same⟩, (by omega), i3.mono (by decide), hb100, fun D4 J7 t7 g7 hD4 => ⟨cuesD _, cuesD _, ((hD3.up sP).up t7).dp, hD4.dp, cuesD_shaped ok3, cuesD_shaped ok3, false, (by rw [cuesD_eqv, decide_eq_true rfl]; rfl), iteF ?_⟩⟩
    have t57 := (t5.trans t6).trans (sP.trans t7)
    have tall := (t12.trans t34).trans t57
    have hs15 := hs14.up tall
    have hW15 := hW.up tall
    have hpa15 := tall _ _ hpa14
    have hpm15 := tall _ _ hpm14
    have hcs15 := hcs14.up tall
    refine ⟨fun σ' H16 => ∃ pb, σ' = ([some (.ref p), some (.ref s), some (.ref C), some (.ref d), none, none, some (.str (uS u)), none, some (.ref F), some (.ref G), some (.ref P1), some (.ref P2), some (.ref pa), some (.ref pm), some (.ref W), some (.ref pb), none] : L2.St) ∧ Same J7 H16 ∧ H16 pb = some (pairQ (qa * qm)), ?_, ?_⟩
    · have up : ∀ {n : Int}, n.natAbs < 2 ^ 4 → n.natAbs < 2 ^ 3000 := fun h => Nat.lt_of_lt_of_le h (Nat.pow_le_pow_right (by decide) (by decide))
      have m1 := mul_bits ab.1 mb.1
      have m2 := mul_bits (den_bits ab) (den_bits mb)
      refine ⟨_, rfl, pa, _, 0, _, rfl, rfl, SqT.of hpa15, rfl, _, rfl, pm, _, 0, _, rfl, rfl, SqT.of hpm15, rfl, _, _, rfl, rfl, mul4 (up ab.1) (up mb.1), _, rfl, pa, _, 1, _, rfl, rfl, SqT.of hpa15, rfl, _, rfl, pm, _, 1, _, rfl, rfl, SqT.of hpm15, rfl, _, _, rfl, rfl, mul4 (up (den_bits ab)) (up (den_bits mb)), _, _, rfl, Int.mul_ne_zero (den_ne _) (den_ne _), Nat.lt_of_lt_of_le m1 (Nat.pow_le_pow_right (by decide) (by decide)), Nat.lt_of_lt_of_le m2 (Nat.pow_le_pow_right (by decide) (by decide)), fun pb Hr sr gr hr => ⟨pb, rfl, sr, ?_⟩⟩
      rw [← q_mul]
      exact hr
    rintro σ' H16 ⟨pb, rfl, s16, hpb⟩
    have szW : ∀ c ∈ trS (fun b => b) (mAt u qa) cs, SzB 1 (mAt u qm c.2.2.1 * c.2.2.2) := fun c hc => by
      obtain ⟨e, he, rfl⟩ := List.mem_map.mp hc
      have := szq (qa * qm) 8 (ab.mul mb) (by decide) e he
      show SzB 1 (mAt u qm e.2.2.1 * (mAt u qa e.2.2.1 * e.2.2.2))
      have e2 : mAt u qm e.2.2.1 * (mAt u qa e.2.2.1 * e.2.2.2) = mAt u (qa * qm) e.2.2.1 * e.2.2.2 := by
        unfold mAt
        split <;> grind
      rw [e2]
      exact this
    have hpm16 := s16 _ _ hpm15
    refine ⟨fun σ' H17 => ∃ W4, σ' = ([some (.ref p), some (.ref s), some (.ref C), some (.ref d), none, none, some (.str (uS u)), none, some (.ref F), some (.ref G), some (.ref P1), some (.ref P2), some (.ref pa), some (.ref pm), some (.ref W), some (.ref pb), some (.ref W4)] : L2.St) ∧ Same H16 H17 ∧ ShtOk K H17 W4 (trS (fun b => b) (mAt u qm) (trS (fun b => b) (mAt u qa) cs)), ?_, ?_⟩
    · refine ⟨_, rfl, _, rfl, _, rfl, pm, _, 0, _, rfl, rfl, SqT.of hpm16, rfl, _, rfl, pm, _, 1, _, rfl, rfl, SqT.of hpm16, rfl, mk_amtQ mb (by decide) fun r J1 t1 gr hr => ⟨_, _, _, rfl, .inr ⟨W, _, rfl, (hW15.up s16).up t1, .str _, .inr ⟨u, rfl, (Qv.obj hr).any, .inr ⟨qm, .obj hr, m0, mb.mono (by decide), szW, fun W4 J2 t2 gW hW4 => ⟨W4, rfl, t1.trans t2, hW4⟩⟩⟩⟩⟩⟩
    rintro σ' H17 ⟨W4, rfl, s17, hW4⟩
    have hs17 := (hs15.up s16).up s17
    have hpb17 := s17 _ _ hpb
    have hcs17 := (hcs15.up s16).up s17
    have x17 : SameX p H H17 := (((sameX_of sall).trans x12).trans x13).trans (sameX_of (((s14.trans tall).trans s16).trans s17))
    have b17 := (((b13.up s14).up tall).up s16).up s17
    have abm := ab.mul mb
    have am0 : 0 < qa * qm := Rat.mul_pos a0 m0
    refine ⟨_, rfl, _, rfl, _, rfl, _, rfl, pb, _, 0, _, rfl, rfl, SqT.of hpb17, rfl, _, rfl, pb, _, 1, _, rfl, rfl, SqT.of hpb17, rfl, mk_amtQ abm (by decide) fun r J1 u1 gr hr => ⟨_, _, _, rfl, .inr ⟨s, cs, rfl, hs17.up u1, .str _, .inr ⟨u, rfl, (Qv.obj hr).any, .inr ⟨qa * qm, .obj hr, am0, abm.mono (by decide), szq _ 8 abm (by decide), fun W5 J2 u2 g5 hW5 => ?_⟩⟩⟩⟩⟩
    have u12 := u1.trans u2
    have hW42 := hW4.up u12
    obtain ⟨dw4, fw4, lw4, mw4, hw4, _⟩ := hW42.at
    refine ⟨W4, dw4, fw4, rfl, hw4, hW5.ofTy T, W4, W5, _, _, rfl, hW42, hW5, fun J3 u3 => ⟨true, congrArg V.bl (decide_eq_true (tr_at2 u qa qm cs)), iteT ?_⟩⟩
    have u13 := u12.trans u3
    refine ⟨_, rfl, s, cs, rfl, hs17.up u13, fun D9 J4 u4 g9 hD9 => ⟨_, rfl, cuesD cs, cuesD cs, hD9.dp, ((hcs17.up u13).up u4).dp, cuesD_shaped hok.strs, cuesD_shaped hok.strs, ?_⟩⟩
    rw [cuesD_eqv, decide_eq_true rfl]
    have uall := u13.trans u4
    exact k _ (x17.trans (sameX_of uall)) (b17.up uall)
end
end K34

set_option maxHeartbeats 4000000
namespace K34
open PySem PySem.Spec PyProof.Rows L2 AT
structure Good (z : Str) : Prop where
  ok : ∀ c ∈ z.cps.toList, c < 1114112
  len : z.length ≤ 100000
theorem Good.lt {z : Str} (g : Good z) : z.length < sizeLine := by have := g.len; rw [sizeLine_eq]; omega
theorem Good.le {z : Str} (g : Good z) : z.length ≤ sizeLine := Nat.le_of_lt g.lt
section
variable {K : PySem.W.Frag}
/-- a list of single signs, unlike [] -/
theorem dp_signs {H : Hp} : ∀ (l : List Nat), DpAll K H (l.map fun c => V.str ⟨#[c]⟩) (l.map fun c => PyData.str ⟨#[c]⟩)
  | [] => .nil
  | c :: l => .cons (.str _) (dp_signs l)
theorem lay_signs : ∀ (l : List Nat), (∀ c ∈ l, c < 1114112) → PyData.canLayAll0 (l.map fun c => PyData.str ⟨#[c]⟩) = true
  | [], _ => rfl
  | c :: l, h => by
    have h1 := h c List.mem_cons_self
    show (PyData.strOk ⟨#[c]⟩ && PyData.canLayAll0 (l.map fun c => PyData.str ⟨#[c]⟩)) = true
    rw [lay_signs l fun d hd => h d (List.mem_cons_of_mem _ hd), Bool.and_true]
    simp [PyData.strOk, h1]
theorem depth_signs : ∀ (l : List Nat), PyData.depthAll (l.map fun c => PyData.str ⟨#[c]⟩) = 0
  | [] => rfl
  | c :: l => by
    show max (PyData.depth (PyData.str ⟨#[c]⟩)) (PyData.depthAll (l.map fun c => PyData.str ⟨#[c]⟩)) = 0
    rw [depth_signs l]
    rfl
theorem eq_nil {K : PySem.W.Frag} {H : Hp} {D p : Addr} {l : List Nat} {Q : VK} (hc : ∀ c ∈ l, c < 1114112) (hD : H D = some (.lst (l.map fun c => V.str ⟨#[c]⟩))) (hp : H p = some (.lst [])) (q : Q (.bl l.isEmpty) H) : rEqD K (.ref D) (.ref p) H Q := by
  refine ⟨_, _, .lst (SqL.of hD) (dp_signs l), .lst (SqL.of hp) .nil, ?_, by decide, ?_⟩
  · unfold SeqAt.shaped
    show (PyData.canLayAll0 (l.map fun c => PyData.str ⟨#[c]⟩) && decide (PyData.depthAll (l.map fun c => PyData.str ⟨#[c]⟩) + 1 ≤ 64)) = true
    rw [lay_signs l hc, depth_signs]
    rfl
  · cases l with
    | nil => exact q
    | cons c l => exact q
theorem both_in (c : Nat) : decide (c ∈ (Str.cps (("abcdefghijklmnopqrstuvwxyz" : Str) ++ ("0123456789" : Str))).toList) = (inS c letters || inS c digits) := by
  have e : (Str.cps (("abcdefghijklmnopqrstuvwxyz" : Str) ++ ("0123456789" : Str))).toList = (Str.cps letters).toList ++ (Str.cps digits).toList := by
    show ((Str.cps letters) ++ (Str.cps digits)).toList = _
    rw [Array.toList_append]
  rw [e]
  unfold inS
  simp [List.mem_append]
theorem named_empty (z : Str) : (z.cps.toList.filter fun c => !(inS c letters || inS c digits)).isEmpty = z.cps.toList.all fun c => inS c letters || inS c digits := by
  induction z.cps.toList with
  | nil => rfl
  | cons c l ih =>
    rw [List.filter_cons, List.all_cons]
    cases (inS c letters || inS c digits) with
    | true => simpa using ih
    | false => rfl
end
section
variable {P : Program} {w : World} {K : PySem.W.Frag} {mg : Str → Option Value} {base : Heap}
def spNamedV (K : PySem.W.Frag) : Sp := fun vs H Q _ => ∃ v, vs = [v] ∧ AnyV K H v ∧ (∀ z, v = .str z → Good z) ∧ ∀ H', Same H H' → Q (.bl (nameV v)) H'
theorem sc_w_is_named : FnScope ["_law_word", "_law_small", "_law_sign"] ["_law_word"] (defScope s_w_is_named) := ⟨rfl, rfl, rfl, by decide +kernel, rfl, by decide +kernel, by decide +kernel⟩
theorem ok_w_is_named (T : Tx K mg base) : Ok P w K mg base 1 (d_w_is_named.loc K) ["_law_word"] (spNamedV K) := by
  refine mk_ok (k := 0) T.f_w_is_named sc_w_is_named (fun _ _ _ _ _ _ us hl => match us, hl with | [_], _ => rfl) (fun vs H Q E h => ?_) (fun cdv A outer s H vs Q E hr h => ?_)
  · obtain ⟨v, rfl, _⟩ := h
    rfl
  · obtain ⟨v, rfl, hv, hz, k⟩ := h
    refine ⟨_, (pss_cons (ps_set (i := 1) sc_w_is_named.nd rfl (Or.inr rfl) pe_str)
      (pss_cons (ps_if (PW.pt (pw_or (pt_not (pt_val (pe_callB call_isi (by rfl) T.b_isinstance (by decide +kernel) (pa_cons (pv 0) (pa_cons (pe_bltn (v := .ty "str") rfl T.b_str (by decide +kernel) rfl) pa_nil))))) (pw_or (pt_not (pt_chain op_lt op_lt pe_int (pe_callB call_len_str (by rfl) T.b_len (by decide +kernel) (pa_cons (pv 0) pa_nil)) pe_int)) (pw_or1 (pt_cmpR op_notInS (pe_ix ix_str (pv 0) pe_int (fun _ _ => rfl)) (pv 1) (by rfl)))))) (pss_one (ps_ret pe_bl)) pss_nil)
      (pss_one (ps_ret (pe_cmpR (op_eqD hr.units) (pe_lc (own := [("_law_sign", 2)]) (g := (gName 2)) (by rfl) sc_w_is_named.nd (pi_str (pv 0)) (blkOk_by (own := [("_law_sign", 2)]) (N := ["_law_word", "_law_small", "_law_sign"]) (sc := defScope s_w_is_named) (by decide +kernel)) (fun _ _ _ _ _ => (pg_name (i := 2) sc_w_is_named.nd rfl (Or.inl rfl))) (fun _ _ _ _ _ => (pts_one (pt_cmpR op_notInS (pv 2) (pe_op op_add_str (pv 1) pe_str) (by rfl)))) (fun _ _ _ _ _ => (pv 2))) (pe_lst pa_nil) (nomark _)))))), ?_⟩
    obtain ⟨t1, y1, q1⟩ := isi_str T hv
    refine ⟨_, rfl, _, _, _, _, _, rfl, .ty _, y1, q1, _, rfl, ?_⟩
    cases hv with
    | str z =>
      have hz := hz z rfl
      have no : isNameS z = false → Q (.bl false) H := fun e => by
        have := k H (Same.refl _)
        rw [show nameV (.str z) = false from e] at this
        exact this
      refine iteF ⟨_, rfl, z, rfl, hz.le, _, _, rfl, rfl, _, rfl, ?_⟩
      refine ite2 (fun h1 => ?_) (fun h1 => ?_)
      · have h1' : 0 < (z.length : Int) := of_decide_eq_true h1
        refine ⟨_, _, rfl, rfl, _, rfl, ?_⟩
        by_cases h2 : (z.length : Int) ≤ 8
        · rw [decide_eq_true (show (z.length : Int) < 9 by omega)]
          refine iteF ⟨_, rfl, z, 0, _, rfl, rfl, hz.le, at0 h1', _, rfl, _, _, rfl, rfl, _, rfl, ?_⟩
          by_cases h3 : inS (z.cps.getD 0 0) letters = true
          · rw [show decide (z.cps.getD 0 0 ∈ (Str.cps "abcdefghijklmnopqrstuvwxyz").toList) = true from h3]
            refine iteF ⟨_, rfl, z, rfl, fun D hD => ?_⟩
            refine lc_text (fun c => !(inS c letters || inS c digits)) (fun c => .str ⟨#[c]⟩) hz.lt hD (fun x => rfl) (fun c H' R _ _ k2 => ?_) (fun c H' R _ _ k2 => ⟨_, rfl, k2 H' (Same.refl _)⟩) (fun H1 s1 hl => ?_)
            · refine ⟨_, rfl, _, rfl, _, _, rfl, rfl, (by decide), _, _, rfl, rfl, _, rfl, ?_⟩
              rw [both_in]
              exact k2 H' (Same.refl _)
            · refine ⟨(by show 0 ≤ sizeLine; exact Nat.zero_le _), fun p hp => eq_nil (fun c hc => hz.ok c ((List.mem_filter.mp hc).1)) (by rw [upd_ne (ne_of_none hl hp)]; exact hl) upd_same ?_⟩
              have e3 : isNameS z = (z.cps.toList.all fun c => inS c letters || inS c digits) := by
                unfold isNameS
                rw [decide_eq_true h1', decide_eq_true h2, h3, Bool.true_and, Bool.true_and, Bool.true_and]
              have := k _ (s1.trans (AT.Same.up (o := .lst []) hp))
              rw [named_empty]
              rw [show nameV (.str z) = _ from e3] at this
              exact this
          · have h3' : inS (z.cps.getD 0 0) letters = false := by simpa using h3
            rw [show decide (z.cps.getD 0 0 ∈ (Str.cps "abcdefghijklmnopqrstuvwxyz").toList) = false from h3']
            refine iteT (no ?_)
            unfold isNameS
            rw [h3', Bool.false_and, Bool.and_false, Bool.and_false]
        · rw [decide_eq_false (show ¬ (z.length : Int) < 9 by omega)]
          refine iteT (iteT (no ?_))
          unfold isNameS
          rw [decide_eq_false h2, Bool.false_and, Bool.and_false]
      · refine ⟨_, rfl, iteT (iteT (no ?_))⟩
        have h1' : decide (0 < (z.length : Int)) = false := by simpa using h1
        unfold isNameS
        rw [h1', Bool.false_and]
    | _ => exact iteT (k H (Same.refl _))
end
end K34

set_option maxHeartbeats 4000000
namespace K34
open PySem PySem.Spec PyProof.Rows L2 AT
section
variable {P : Program} {w : World} {K : PySem.W.Frag} {mg : Str → Option Value} {base : Heap}
/-- what is told of an exception: its mark and the very object -/
def OutW (H : Hp) (Q : VK) (tag : Str) (v : V) : Prop := ∀ q H', Same H H' → H q = none → H' q = some (.lst [.str tag, v]) → Q (.ref q) H'
def OutC (H : Hp) (Q : VK) (cs : List Cue) : Prop := ∀ q D H', Same H H' → H q = none → H' q = some (.lst [.str "cues", .ref D]) → CsL H' D cs → Q (.ref q) H'
def spToldW (K : PySem.W.Frag) : Sp := fun vs H Q _ => ∃ (i : Int) (M : Addr) (a b c d : V), vs = [.int i, .ref M] ∧ H M = some (.lst [a, b, c, d]) ∧
  ((i = 0 ∧ ((NoS K H a ∧ OutW H Q "sheet" a) ∨ ∃ s cs, a = .ref s ∧ ShtOk K H s cs ∧ ((NoS K H b ∧ OutW H Q "sheet" b) ∨ ∃ t ds, b = .ref t ∧ ShtOk K H t ds ∧ AnyV K H c ∧
    ((inSh cs c = false ∧ OutW H Q "cue" c) ∨ ∃ az, c = .str az ∧ az ∈ nmS cs ∧ AnyV K H d ∧ (∀ z, d = .str z → z.length ≤ 1000) ∧
    ((nameV d = false ∧ OutW H Q "name" d) ∨ ∃ pre, d = .str pre ∧ isNameS pre = true ∧
    ((∃ f v, BadP cs ds pre "InvalidName" f v ∧ OutW H Q "name" v) ∨ (∃ f v, BadP cs ds pre "Duplicate" f v ∧ OutW H Q "twice" v) ∨
     ((∀ e ∈ ds, isNameS (pre ++ e.1) = true ∧ pre ++ e.1 ∉ nmS cs) ∧ cs.length + ds.length < 30 ∧
     ((8 < (momS (cs ++ ds.map (atC az pre))).length ∧ OutW H Q "many" (.int 8)) ∨ ((momS (cs ++ ds.map (atC az pre))).length ≤ 8 ∧ OutC H Q (cs ++ ds.map (atC az pre)))))))))))
  ∨ (i = 1 ∧ ((NoS K H a ∧ OutW H Q "sheet" a) ∨ ∃ s cs, a = .ref s ∧ ShtOk K H s cs ∧ AnyV K H b ∧ ((unitV b = false ∧ OutW H Q "unit" b) ∨ ∃ w, b = .str (uS w) ∧ AnyV K H c ∧ ((wholeV c = false ∧ ¬ isA K H c) ∨ ∃ q, Qv K H c q ∧ q ≤ 0) ∧ OutW H Q "amount" c)))
  ∨ (i = 2 ∧ NoS K H a ∧ OutW H Q "sheet" a) ∨ (i = 3 ∧ NoS K H a ∧ OutW H Q "sheet" a))
theorem sc_w_told : FnScope ["_law_way", "_law_things", "_law_one", "_law_two", "_law_three", "_law_four", "e"] ["_law_way", "_law_things"] (defScope s_w_told) := ⟨rfl, rfl, rfl, by decide +kernel, rfl, by decide +kernel, by decide +kernel⟩
theorem ok_w_told (T : Tx K mg base) : Ok P w K mg base 16 (d_w_told.loc K) ["_law_way", "_law_things"] (spToldW K) := by
  refine mk_ok (k := 15) T.f_w_told sc_w_told (fun _ _ _ _ _ _ us hl => match us, hl with | [_, _], _ => rfl) (fun vs H Q E h => ?_) (fun cdv A outer s H vs Q E hr h => ?_)
  · obtain ⟨i, M, a, b, c, d, rfl, _⟩ := h
    rfl
  · obtain ⟨i, M, a, b, c, d, rfl, hM, hc⟩ := h
    refine ⟨_, (pss_cons (ps_asg (pv 1) (pg_lst rfl (pgs_cons (pg_name (i := 2) sc_w_told.nd rfl (Or.inl rfl)) (pgs_cons (pg_name (i := 3) sc_w_told.nd rfl (Or.inl rfl)) (pgs_cons (pg_name (i := 4) sc_w_told.nd rfl (Or.inl rfl)) (pgs_cons (pg_name (i := 5) sc_w_told.nd rfl (Or.inl rfl)) pgs_nil))))))
      (pss_one (ps_try_mas (tb := _) rfl rfl takes0 (fun W pn xe tk _ => (pss_cons (ps_if (pt_cmpR op_eq (pv 0) pe_int (nomark _)) (pss_one (ps_ret (pe_lst (pa_cons pe_str (pa_cons (ok_callS (ok_w_plain T) (hr.mono (by decide)) rfl T.g_w_plain tk (pa_cons (ok_callS (ok_attached T) (hr.mono (by decide)) rfl T.g_attached tk (pa_cons (pv 2) (pa_cons (pv 3) (pa_cons (pv 4) (pa_cons (pv 5) pa_nil))))) pa_nil)) pa_nil))))) pss_nil)
      (pss_cons (ps_if (pt_cmpR op_eq (pv 0) pe_int (nomark _)) (pss_one (ps_ret (pe_lst (pa_cons pe_str (pa_cons (ok_callS (ok_w_plain T) (hr.mono (by decide)) rfl T.g_w_plain tk (pa_cons (ok_callS (ok_stretched T) (hr.mono (by decide)) rfl T.g_stretched tk (pa_cons (pv 2) (pa_cons (pv 3) (pa_cons (pv 4) pa_nil)))) pa_nil)) pa_nil))))) pss_nil)
      (pss_one (ps_ret (pe_lst (pa_cons pe_str (pa_cons (ok_callS (ok_w_plain T) (hr.mono (by decide)) rfl T.g_w_plain tk (pa_cons (pe_ifExp (pt_cmpR op_eq (pv 0) pe_int (nomark _)) (ok_callS (ok_exchanged T) (hr.mono (by decide)) rfl T.g_exchanged tk (pa_cons (pv 2) pa_nil)) (ok_callS (ok_reversed_sheet T) (hr.mono (by decide)) rfl T.g_reversed_sheet tk (pa_cons (pv 2) pa_nil))) pa_nil)) pa_nil)))))))) (.cons sc_w_told.nd (i := 6) rfl rfl ⟨rfl, by decide, .inl T.g_InvalidSheet⟩ (fun a oe cls d pn hz hf => (pss_one (ps_ret (pe_lst (pa_cons pe_str (pa_cons (pe_xf T.xc_InvalidSheet.xf T.xc_InvalidSheet.no hz hf (pv 6)) pa_nil)))))) (.cons sc_w_told.nd (i := 6) rfl rfl ⟨rfl, by decide, .inl T.g_UnknownCue⟩ (fun a oe cls d pn hz hf => (pss_one (ps_ret (pe_lst (pa_cons pe_str (pa_cons (pe_xf T.xg_UnknownCue.xf T.xg_UnknownCue.no hz hf (pv 6)) pa_nil)))))) (.cons sc_w_told.nd (i := 6) rfl rfl ⟨rfl, by decide, .inl T.g_InvalidName⟩ (fun a oe cls d pn hz hf => (pss_one (ps_ret (pe_lst (pa_cons pe_str (pa_cons (pe_xf T.xc_InvalidName.xf T.xc_InvalidName.no hz hf (pv 6)) pa_nil)))))) (.cons sc_w_told.nd (i := 6) rfl rfl ⟨rfl, by decide, .inl T.g_Duplicate⟩ (fun a oe cls d pn hz hf => (pss_one (ps_ret (pe_lst (pa_cons pe_str (pa_cons (pe_xf T.xc_Duplicate.xf T.xc_Duplicate.no hz hf (pv 6)) pa_nil)))))) (.cons sc_w_told.nd (i := 6) rfl rfl ⟨rfl, by decide, .inl T.g_InvalidUnit⟩ (fun a oe cls d pn hz hf => (pss_one (ps_ret (pe_lst (pa_cons pe_str (pa_cons (pe_xf T.xc_InvalidUnit.xf T.xc_InvalidUnit.no hz hf (pv 6)) pa_nil)))))) (.cons sc_w_told.nd (i := 6) rfl rfl ⟨rfl, by decide, .inl T.g_InvalidAmount⟩ (fun a oe cls d pn hz hf => (pss_one (ps_ret (pe_lst (pa_cons pe_str (pa_cons (pe_xf T.xc_InvalidAmount.xf T.xc_InvalidAmount.no hz hf (pv 6)) pa_nil)))))) (.cons sc_w_told.nd (i := 6) rfl rfl ⟨rfl, by decide, .inl T.g_TooMany⟩ (fun a oe cls d pn hz hf => (pss_one (ps_ret (pe_lst (pa_cons pe_str (pa_cons (pe_xf T.xg_TooMany.xf T.xg_TooMany.no hz hf (pv 6)) pa_nil)))))) .nil)))))))))), ?_⟩
    have hsz : sizeLine = 16777216 := sizeLine_eq
    have z2 : 2 ≤ sizeLine := by omega
    refine ⟨_, rfl, M, _, rfl, SqL.of hM, rfl, _, _, rfl, _, _, rfl, _, _, rfl, _, _, rfl, rfl, ?_⟩
    rcases hc with ⟨rfl, hc⟩ | ⟨rfl, hc⟩ | ⟨rfl, hn, k⟩ | ⟨rfl, hn, k⟩
    · refine ⟨_, rfl, rfl, true, by decide, iteT ⟨_, rfl, _, rfl, _, rfl, _, rfl, a, b, c, d, rfl, ?_⟩⟩
      rcases hc with ⟨hn, k⟩ | ⟨s, cs, rfl, hs, hc⟩
      · exact .inl ⟨hn, fun H2 d0 s2 hd2 hx => ⟨true, T.ex_InvalidSheet_InvalidSheet, fun _ a0 ha => ⟨_, rfl, rfl, rfl, d0, _, _, rfl, hx, rfl, z2, fun q hq => k q _ (s2.trans (AT.Same.up hq)) (none_of s2 hq) upd_same⟩, nofun⟩⟩
      refine .inr ⟨s, cs, rfl, hs, ?_⟩
      rcases hc with ⟨hn, k⟩ | ⟨t, ds, rfl, ht, hav, hc⟩
      · exact .inl ⟨hn, fun H2 d0 s2 hd2 hx => ⟨true, T.ex_InvalidSheet_InvalidSheet, fun _ a0 ha => ⟨_, rfl, rfl, rfl, d0, _, _, rfl, hx, rfl, z2, fun q hq => k q _ (s2.trans (AT.Same.up hq)) (none_of s2 hq) upd_same⟩, nofun⟩⟩
      refine .inr ⟨t, ds, rfl, ht, hav, ?_⟩
      rcases hc with ⟨hn, k⟩ | ⟨az, rfl, haz, hdv, hdl, hc⟩
      · exact .inl ⟨hn, fun H2 d0 s2 hd2 hx => ⟨false, T.ex_UnknownCue_InvalidSheet, nofun, fun _ => ⟨true, T.ex_UnknownCue_UnknownCue, fun _ a0 ha => ⟨_, rfl, rfl, rfl, d0, _, _, rfl, hx, rfl, z2, fun q hq => k q _ (s2.trans (AT.Same.up hq)) (none_of s2 hq) upd_same⟩, nofun⟩⟩⟩
      refine .inr ⟨az, rfl, haz, hdv, hdl, ?_⟩
      rcases hc with ⟨hn, k⟩ | ⟨pre, rfl, hpre, hc⟩
      · exact .inl ⟨hn, fun H2 d0 s2 hd2 hx => ⟨false, T.ex_InvalidName_InvalidSheet, nofun, fun _ => ⟨false, T.ex_InvalidName_UnknownCue, nofun, fun _ => ⟨true, T.ex_InvalidName_InvalidName, fun _ a0 ha => ⟨_, rfl, rfl, rfl, d0, _, _, rfl, hx, rfl, z2, fun q hq => k q _ (s2.trans (AT.Same.up hq)) (none_of s2 hq) upd_same⟩, nofun⟩⟩⟩⟩
      refine .inr ⟨pre, rfl, hpre, ?_⟩
      rcases hc with ⟨f, v, hb, k⟩ | ⟨f, v, hb, k⟩ | ⟨hall, hlen, hc⟩
      · obtain ⟨i0, d1, e1, e2, rfl, ⟨e3, _, rfl⟩ | ⟨_, _, e3, _⟩⟩ := hb
        · exact .inl ⟨"InvalidName", "value", _, ⟨i0, d1, e1, e2, rfl, .inl ⟨e3, rfl, rfl⟩⟩, fun H2 d0 s2 hd2 hx => ⟨false, T.ex_InvalidName_InvalidSheet, nofun, fun _ => ⟨false, T.ex_InvalidName_UnknownCue, nofun, fun _ => ⟨true, T.ex_InvalidName_InvalidName, fun _ a0 ha => ⟨_, rfl, rfl, rfl, d0, _, _, rfl, hx, rfl, z2, fun q hq => k q _ (s2.trans (AT.Same.up hq)) (none_of s2 hq) upd_same⟩, nofun⟩⟩⟩⟩
        · exact absurd e3 (by decide)
      · obtain ⟨i0, d1, e1, e2, rfl, ⟨_, e3, _⟩ | ⟨e3, e4, _, rfl⟩⟩ := hb
        · exact absurd e3 (by decide)
        · exact .inl ⟨"Duplicate", "label", _, ⟨i0, d1, e1, e2, rfl, .inr ⟨e3, e4, rfl, rfl⟩⟩, fun H2 d0 s2 hd2 hx => ⟨false, T.ex_Duplicate_InvalidSheet, nofun, fun _ => ⟨false, T.ex_Duplicate_UnknownCue, nofun, fun _ => ⟨false, T.ex_Duplicate_InvalidName, nofun, fun _ => ⟨true, T.ex_Duplicate_Duplicate, fun _ a0 ha => ⟨_, rfl, rfl, rfl, d0, _, _, rfl, hx, rfl, z2, fun q hq => k q _ (s2.trans (AT.Same.up hq)) (none_of s2 hq) upd_same⟩, nofun⟩⟩⟩⟩⟩
      · refine .inr ⟨hall, hlen, ?_⟩
        rcases hc with ⟨h8, k⟩ | ⟨h8, k⟩
        · exact .inl ⟨h8, fun H2 d0 s2 hd2 hx => ⟨false, T.ex_TooMany_InvalidSheet, nofun, fun _ => ⟨false, T.ex_TooMany_UnknownCue, nofun, fun _ => ⟨false, T.ex_TooMany_InvalidName, nofun, fun _ => ⟨false, T.ex_TooMany_Duplicate, nofun, fun _ => ⟨false, T.ex_TooMany_InvalidUnit, nofun, fun _ => ⟨false, T.ex_TooMany_InvalidAmount, nofun, fun _ => ⟨true, T.ex_TooMany_TooMany, fun _ a0 ha => ⟨_, rfl, rfl, rfl, d0, _, _, rfl, hx, rfl, z2, fun q hq => k q _ (s2.trans (AT.Same.up hq)) (none_of s2 hq) upd_same⟩, nofun⟩⟩⟩⟩⟩⟩⟩⟩
        · exact .inr ⟨h8, fun p H1 s1 gp hp => ⟨p, _, rfl, hp, fun D H2 s2 gD hD => ⟨z2, fun q hq => k q D _ (s1.trans (s2.trans (AT.Same.up hq))) (none_of (s1.trans s2) hq) upd_same (hD.up (AT.Same.up hq))⟩⟩⟩
    · refine ⟨_, rfl, rfl, false, by decide, iteF ⟨_, rfl, rfl, true, by decide, iteT ⟨_, rfl, _, rfl, _, rfl, a, b, c, rfl, ?_⟩⟩⟩
      rcases hc with ⟨hn, k⟩ | ⟨s, cs, rfl, hs, hbv, hc⟩
      · exact .inl ⟨hn, fun H2 d0 s2 hd2 hx => ⟨true, T.ex_InvalidSheet_InvalidSheet, fun _ a0 ha => ⟨_, rfl, rfl, rfl, d0, _, _, rfl, hx, rfl, z2, fun q hq => k q _ (s2.trans (AT.Same.up hq)) (none_of s2 hq) upd_same⟩, nofun⟩⟩
      refine .inr ⟨s, cs, rfl, hs, hbv, ?_⟩
      rcases hc with ⟨hn, k⟩ | ⟨w0, rfl, hcv, hf, k⟩
      · exact .inl ⟨hn, fun H2 d0 s2 hd2 hx => ⟨false, T.ex_InvalidUnit_InvalidSheet, nofun, fun _ => ⟨false, T.ex_InvalidUnit_UnknownCue, nofun, fun _ => ⟨false, T.ex_InvalidUnit_InvalidName, nofun, fun _ => ⟨false, T.ex_InvalidUnit_Duplicate, nofun, fun _ => ⟨true, T.ex_InvalidUnit_InvalidUnit, fun _ a0 ha => ⟨_, rfl, rfl, rfl, d0, _, _, rfl, hx, rfl, z2, fun q hq => k q _ (s2.trans (AT.Same.up hq)) (none_of s2 hq) upd_same⟩, nofun⟩⟩⟩⟩⟩⟩
      · exact .inr ⟨w0, rfl, hcv, .inl ⟨hf, fun H2 d0 s2 hd2 hx => ⟨false, T.ex_InvalidAmount_InvalidSheet, nofun, fun _ => ⟨false, T.ex_InvalidAmount_UnknownCue, nofun, fun _ => ⟨false, T.ex_InvalidAmount_InvalidName, nofun, fun _ => ⟨false, T.ex_InvalidAmount_Duplicate, nofun, fun _ => ⟨false, T.ex_InvalidAmount_InvalidUnit, nofun, fun _ => ⟨true, T.ex_InvalidAmount_InvalidAmount, fun _ a0 ha => ⟨_, rfl, rfl, rfl, d0, _, _, rfl, hx, rfl, z2, fun q hq => k q _ (s2.trans (AT.Same.up hq)) (none_of s2 hq) upd_same⟩, nofun⟩⟩⟩⟩⟩⟩⟩⟩
    · refine ⟨_, rfl, rfl, false, by decide, iteF ⟨_, rfl, rfl, false, by decide, iteF ⟨_, rfl, rfl, true, by decide, iteT ⟨_, rfl, a, rfl, .inr ⟨hn, fun H2 d0 s2 hd2 hx => ⟨true, T.ex_InvalidSheet_InvalidSheet, fun _ a0 ha => ⟨_, rfl, rfl, rfl, d0, _, _, rfl, hx, rfl, z2, fun q hq => k q _ (s2.trans (AT.Same.up hq)) (none_of s2 hq) upd_same⟩, nofun⟩⟩⟩⟩⟩⟩
    · refine ⟨_, rfl, rfl, false, by decide, iteF ⟨_, rfl, rfl, false, by decide, iteF ⟨_, rfl, rfl, false, by decide, iteF ⟨_, rfl, a, rfl, .inr ⟨hn, fun H2 d0 s2 hd2 hx => ⟨true, T.ex_InvalidSheet_InvalidSheet, fun _ a0 ha => ⟨_, rfl, rfl, rfl, d0, _, _, rfl, hx, rfl, z2, fun q hq => k q _ (s2.trans (AT.Same.up hq)) (none_of s2 hq) upd_same⟩, nofun⟩⟩⟩⟩⟩⟩
end
end K34

set_option maxHeartbeats 4000000
namespace K34
open PySem PySem.Spec PyProof.Rows L2 AT
mutual
theorem dd_of {K : PySem.W.Frag} {H : Hp} : ∀ {v : V} {d : PyData}, Dp K H v d → Dd K H v d
  | _, _, .non => .non
  | _, _, .bl b => .bl b
  | _, _, .int i => .int i
  | _, _, .str x => .str x
  | _, _, .lst a b => .lst a (dds_of b)
  | _, _, .tup a b => .tup a (dds_of b)
theorem dds_of {K : PySem.W.Frag} {H : Hp} : ∀ {v : List V} {d : List PyData}, DpAll K H v d → DdAll K H v d
  | _, _, .nil => .nil
  | _, _, .cons a b => .cons (dd_of a) (dds_of b)
end
section
variable {P : Program} {w : World} {K : PySem.W.Frag} {mg : Str → Option Value} {base : Heap}
/-- what is due of cues that are joined: a mark and what goes with it -/
def DueA (cs ds : List Cue) (az pre tag : Str) (d : PyData) : Prop :=
  (az ∉ nmS cs ∧ tag = "cue" ∧ d = .str az) ∨ (az ∈ nmS cs ∧ ((isNameS pre = false ∧ tag = "name" ∧ d = .str pre) ∨ (isNameS pre = true ∧
  ((∃ f z, BadP cs ds pre "InvalidName" f (.str z) ∧ tag = "name" ∧ d = .str z) ∨ (∃ f z, BadP cs ds pre "Duplicate" f (.str z) ∧ tag = "twice" ∧ d = .str z) ∨
   ((∀ e ∈ ds, isNameS (pre ++ e.1) = true ∧ pre ++ e.1 ∉ nmS cs) ∧ ((8 < (momS (cs ++ ds.map (atC az pre))).length ∧ tag = "many" ∧ d = .int 8) ∨
    ((momS (cs ++ ds.map (atC az pre))).length ≤ 8 ∧ tag = "cues" ∧ d = cuesD (cs ++ ds.map (atC az pre)))))))))
def spDueA (K : PySem.W.Frag) : Sp := fun vs H Q _ => ∃ C D cs ds az pre, vs = [.ref C, .ref D, .str az, .str pre] ∧ CsL H C cs ∧ CsL H D ds ∧ CuesOk cs ∧ CuesOk ds ∧ cs.length + ds.length < 30 ∧ Good pre ∧ pre.length ≤ 1000 ∧
  ∀ tag d a x H', DueA cs ds az pre tag d → Same H H' → H a = none → H' a = some (.lst [.str tag, x]) → Dd K H' x d → Q (.ref a) H'
theorem sc_w_due : FnScope ["_law_cues_here", "_law_more", "_law_at", "_law_prefix", "_law_cue", "_law_names", "_law_as_new", "_law_found", "_law_name", "_law_parent", "_law_unit", "_law_amount_here"] ["_law_cues_here", "_law_more", "_law_at", "_law_prefix"] (defScope s_w_due) := ⟨rfl, rfl, rfl, by decide +kernel, rfl, by decide +kernel, by decide +kernel⟩
theorem ok_w_due (T : Tx K mg base) : Ok P w K mg base 7 (d_w_due.loc K) ["_law_cues_here", "_law_more", "_law_at", "_law_prefix"] (spDueA K) := by
  refine mk_ok (k := 6) T.f_w_due sc_w_due (fun _ _ _ _ _ _ us hl => match us, hl with | [_, _, _, _], _ => rfl) (fun vs H Q E h => ?_) (fun cdv A outer s H vs Q E hr h => ?_)
  · obtain ⟨C, D, cs, ds, az, pre, rfl, _⟩ := h
    rfl
  · obtain ⟨C, D, cs, ds, az, pre, rfl, hC, hD, hok, hdk, hlen, gp, hpl, k⟩ := h
    refine ⟨_, (Evl.pss_cut (ps_set (i := 5) sc_w_due.nd rfl (Or.inl rfl) (pe_op op_cat (pe_lst (pa_cons pe_str pa_nil)) (pe_lc (own := [("_law_cue", 4)]) (g := (gName 4)) (tt := tYes) (by rfl) sc_w_due.nd (pi_list (pv 0)) (blkOk_by (own := [("_law_cue", 4)]) (N := ["_law_cues_here", "_law_more", "_law_at", "_law_prefix", "_law_cue", "_law_names", "_law_as_new", "_law_found", "_law_name", "_law_parent", "_law_unit", "_law_amount_here"]) (sc := defScope s_w_due) (by decide +kernel)) (fun _ _ _ _ _ => (pg_name (i := 4) sc_w_due.nd rfl (Or.inl rfl))) (fun _ _ _ _ _ => pts_nil) (fun _ _ _ _ _ => (pe_ix (show IxR _ (rIxT K) from ix_tup) (pv 4) pe_int (fun _ _ => rfl))))))
      (pss_cons (ps_if (pt_cmpR op_notIn_seq (pv 2) (pv 5) (by rfl)) (pss_one (ps_ret (pe_lst (pa_cons pe_str (pa_cons (pv 2) pa_nil))))) pss_nil)
      (pss_cons (ps_if (pt_not (pt_val (ok_call (ok_w_is_named T) (hr.mono (by decide)) rfl T.g_w_is_named passL (pa_cons (pv 3) pa_nil)))) (pss_one (ps_ret (pe_lst (pa_cons pe_str (pa_cons (pv 3) pa_nil))))) pss_nil)
      (pss_cons (ps_par (by rfl) sc_w_due.nd (i := 6) (j := 7) rfl rfl (by decide) rfl rfl (pa_cons (pe_disp (pps_cons pe_str (pv 2) pps_nil) (by rfl) (by rfl) (fun z => by cases z) (by decide)) (pa_cons (pe_callTy call_list_of (by rfl) T.b_list (by decide +kernel) (pa_cons (pv 0) pa_nil)) pa_nil)) (by rfl))
      (pss_cons (ps_for (passes_of rfl) rfl (pi_list (pv 1)) (pg_tup rfl (pgs_cons (pg_name (i := 8) sc_w_due.nd rfl (Or.inl rfl)) (pgs_cons (pg_name (i := 9) sc_w_due.nd rfl (Or.inl rfl)) (pgs_cons (pg_name (i := 10) sc_w_due.nd rfl (Or.inl rfl)) (pgs_cons (pg_name (i := 11) sc_w_due.nd rfl (Or.inl rfl)) pgs_nil))))) (pss_cons (ps_if (pt_not (pt_val (ok_call (ok_w_is_named T) (hr.mono (by decide)) rfl T.g_w_is_named passL (pa_cons (pe_op op_add_str (pv 3) (pv 8)) pa_nil)))) (pss_one (ps_ret (pe_lst (pa_cons pe_str (pa_cons (pe_op op_add_str (pv 3) (pv 8)) pa_nil))))) pss_nil)
      (pss_cons (ps_if (pt_cmpR op_in_seq (pe_op op_add_str (pv 3) (pv 8)) (pv 5) (by rfl)) (pss_one (ps_ret (pe_lst (pa_cons pe_str (pa_cons (pe_op op_add_str (pv 3) (pv 8)) pa_nil))))) pss_nil)
      (pss_cons (ps_dput (by exact hu_of hr) (pv 6) (pv 8) (pe_op op_add_str (pv 3) (pv 8)) rfl)
      (pss_one (ps_expr (pe_bm PySem.F.plainAttrs_list PySem.F.slot_list_append PySem.F.type_list_append mt_append (pv 7) (pa_cons (pe_tup (pa_cons (pe_op op_add_str (pv 3) (pv 8)) (pa_cons (pe_dget (by exact hu_of hr) (pv 6) (pv 9) (fun _ _ => rfl)) (pa_cons (pv 10) (pa_cons (pv 11) pa_nil))))) pa_nil))))))))
      (pss_one (ps_ret (pe_ifExp (pt_cmpR op_gt (pe_callB call_len_seq (by rfl) T.b_len (by decide +kernel) (pa_cons (ok_call (ok_w_moments T) (hr.mono (by decide)) rfl T.g_w_moments passL (pa_cons (pv 7) pa_nil)) pa_nil)) pe_int (nomark _)) (pe_lst (pa_cons pe_str (pa_cons pe_int pa_nil))) (pe_lst (pa_cons pe_str (pa_cons (pv 7) pa_nil))))))))))), ?_⟩
    have hsz : sizeLine = 16777216 := sizeLine_eq
    have z2 : 2 ≤ sizeLine := by omega
    obtain ⟨xs, hC0, hx⟩ := id hC
    obtain ⟨ws, hD0, hw⟩ := id hD
    have hxl := hx.length
    have hwl := hw.length
    refine ⟨fun σ' H1 => ∃ N, σ' = ([some (.ref C), some (.ref D), some (.str az), some (.str pre), none, some (.ref N), none, none, none, none, none, none] : L2.St) ∧ Same H H1 ∧ H1 N = some (.lst ((nmS cs).map V.str)), ?_, ?_⟩
    · refine ⟨(by show 1 ≤ sizeLine; omega), fun L gL => ?_⟩
      have sL := AT.Same.up (o := .lst [.str "start"]) gL
      refine ⟨_, rfl, C, rfl, ⟨_, SqL.of (sL _ _ hC0)⟩, fun F gF => ?_⟩
      refine lc_list (K := K) (a := C) (xs := xs) (fun j H' => Same (upd H L (.lst [.str "start"])) H' ∧ H' F = some (.lst (((cs.take j).map (·.1)).map V.str))) ⟨AT.Same.up gF, upd_same⟩ (fun j H' _ hP => SqL.of (hP.1 _ _ (sL _ _ hC0))) (fun j x H' hxj hP => ?_) (fun H2 hP => ?_)
      · obtain ⟨sm, hF⟩ := hP
        obtain ⟨c, hc, t, pr, rfl, ht, hpr⟩ := prd_getL hx hxj
        refine ⟨rfl, ?_⟩
        dsimp only [tYes]
        refine iteT ⟨_, rfl, t, _, 0, _, rfl, rfl, SqT.of (sm _ _ (sL _ _ ht)), rfl, _, hF, ?_, AT.Same.new sm gF, ?_⟩
        · rw [List.length_map, List.length_map, List.length_take]
          omega
        · rw [List.take_add_one, hc, Option.toList_some, List.map_append, List.map_append, upd_same]
          rfl
      · obtain ⟨sm, hF⟩ := hP
        rw [hxl, List.take_length] at hF
        refine ⟨L, F, _, _, rfl, rfl, sm _ _ upd_same, hF, (by rw [List.length_map, List.length_map, List.length_singleton]; omega), fun N gN => ⟨N, rfl, (sL.trans sm).trans (AT.Same.up gN), ?_⟩⟩
        rw [upd_same]
        rfl
    rintro σ' H1 ⟨N, rfl, s1, hN⟩
    refine ⟨_, rfl, _, rfl, N, _, rfl, .inl (SqL.of hN), rfl, flat_strs _, _, rfl, ?_⟩
    rw [if_pos rfl, inV_str]
    by_cases haz : az ∈ nmS cs
    · rw [decide_eq_true haz]
      refine iteF ⟨_, rfl, .str pre, rfl, .str _, (fun z e => by cases e; exact gp), fun H2 s2 => ⟨_, rfl, ?_⟩⟩
      cases hpre : isNameS pre with
      | false =>
        rw [show nameV (.str pre) = false from hpre]
        have s02 := s1.trans s2
        exact iteT ⟨_, rfl, z2, fun a ga => k "name" (.str pre) a _ _ (.inr ⟨haz, .inl ⟨hpre, rfl, rfl⟩⟩) (s02.trans (AT.Same.up ga)) (none_of s02 ga) upd_same (.str _)⟩
      | true =>
        rw [show nameV (.str pre) = true from hpre]
        have s12 := s1.trans s2
        refine iteF fun d gd => ⟨_, rfl, upd_same, [(Sum.inr "start", .str az)], rfl, (by show 1 ≤ 15; decide), ?_⟩
        have em : mergeK [] [((Sum.inr "start" : Key), V.str az)] = ([(Sum.inr "start", V.str az)] : List (Key × V)) := rfl
        rw [em]
        have gd0 : H d = none := none_of s12 gd
        have hN2 := s2 _ _ hN
        have nNd : N ≠ d := by rintro rfl; rw [hN2] at gd; cases gd
        generalize hH3 : upd (upd H2 d (.dK [])) d (.dK [(Sum.inr "start", .str az)]) = H3
        have s3 : Same H H3 := by rw [← hH3]; exact AT.Same.new (AT.Same.new s12 gd0) gd0
        have hd3 : H3 d = some (.dK [(Sum.inr "start", .str az)]) := by rw [← hH3]; exact upd_same
        have hN3 : H3 N = some (.lst ((nmS cs).map V.str)) := by rw [← hH3, upd_ne nNd, upd_ne nNd]; exact hN2
        clear hH3
        refine ⟨_, rfl, C, _, rfl, .inl (SqL.of (s3 _ _ hC0)), fun Fo gFo => ⟨_, _, rfl, ?_⟩⟩
        have gFo0 : H Fo = none := none_of s3 gFo
        have sFo := AT.Same.up (o := .lst xs) gFo
        have nFd : Fo ≠ d := by rintro rfl; rw [hd3] at gFo; cases gFo
        have nFN : Fo ≠ N := by rintro rfl; rw [hN3] at gFo; cases gFo
        have s4 := s3.trans sFo
        have mp0 : MpV az pre (ds.take 0) [((Sum.inr "start" : Key), V.str az)] := fun n => by
          by_cases e : n = "start"
          · subst e
            rw [if_pos (by simp)]
            rfl
          · rw [if_neg (by simpa using e), valV_neg (p := ((Sum.inr "start" : Key), V.str az)) (fun z => e (Sum.inr.inj z).symm)]
            rfl
        refine ⟨_, rfl, D, rfl, ⟨_, SqL.of (s4 _ _ hD0)⟩, for_list (xs := ws) (fun i σ' H' => (∃ o8 o9 o10 o11, σ' = ([some (.ref C), some (.ref D), some (.str az), some (.str pre), none, some (.ref N), some (.ref d), some (.ref Fo), o8, o9, o10, o11] : L2.St)) ∧ Same H H' ∧ H' N = some (.lst ((nmS cs).map V.str)) ∧ (∃ kvs, H' d = some (.dK kvs) ∧ MpV az pre (ds.take i) kvs ∧ kvs.length ≤ i + 1) ∧ (∃ ys, H' Fo = some (.lst ys) ∧ Paired (CuL H') ys (cs ++ (ds.take i).map (atC az pre))) ∧ ∀ j e, j < i → ds[j]? = some e → isNameS (pre ++ e.1) = true ∧ pre ++ e.1 ∉ nmS cs) ⟨⟨_, _, _, _, rfl⟩, s4, sFo _ _ hN3, ⟨_, sFo _ _ hd3, mp0, by simp⟩, ⟨xs, upd_same, by rw [List.take_zero, List.map_nil, List.append_nil]; exact Paired.mapP hx fun _ _ z => z.up (TT.of s4)⟩, fun j e h => absurd h (Nat.not_lt_zero _)⟩ (fun i σ' H' _ hP => SqL.of (hP.2.1 _ _ hD0)) (fun i x σ' H' hxi hP => ?_) (fun σ' H' hP => ?_)⟩
        · obtain ⟨⟨o8, o9, o10, o11, rfl⟩, sm, hN', ⟨kvs, hdv, hmp, hkl⟩, ⟨ys, hys, hy⟩, hfit⟩ := hP
          obtain ⟨c, hc', t, pr, rfl, ht, hpr⟩ := prd_getL hw hxi
          have hi : i < ds.length := (List.getElem?_eq_some_iff.mp hc').1
          have hcn := nameS_len (hdk.name c (List.mem_of_getElem? hc'))
          have lnn : (pre ++ c.1).length = pre.length + c.1.length := strLen_append _ _
          have ll : pre.length + c.1.length ≤ sizeLine := by omega
          have gpc : Good (pre ++ c.1) := ⟨fun q hq => by
            have hq : q ∈ TL.tl (pre ++ c.1) := hq
            rw [TL.tl_append] at hq
            rcases List.mem_append.mp hq with h | h
            · exact gp.ok q h
            · have := name_cps (hdk.name c (List.mem_of_getElem? hc')) q h
              omega, by rw [lnn]; omega⟩
          obtain ⟨g1, g2⟩ := hdk.good.at hc'
          refine ⟨t, _, rfl, SqT.of (sm _ _ ht), rfl, _, _, rfl, _, _, rfl, _, _, rfl, _, _, rfl, rfl, ?_⟩
          refine ⟨_, rfl, _, rfl, _, _, rfl, rfl, ll, .str (pre ++ c.1), rfl, .str _, (fun z e => by cases e; exact gpc), fun H5 s5 => ⟨_, rfl, ?_⟩⟩
          have sm5 := sm.trans s5
          cases hnm : isNameS (pre ++ c.1) with
          | false =>
            rw [show nameV (.str (pre ++ c.1)) = false from hnm]
            exact iteT ⟨_, rfl, _, rfl, _, _, rfl, rfl, ll, z2, fun a ga => k "name" (.str (pre ++ c.1)) a _ _ (.inr ⟨haz, .inr ⟨hpre, .inl ⟨"value", _, ⟨i, c, hc', hfit, rfl, .inl ⟨hnm, rfl, rfl⟩⟩, rfl, rfl⟩⟩⟩) (sm5.trans (AT.Same.up ga)) (none_of sm5 ga) upd_same (.str _)⟩
          | true =>
            rw [show nameV (.str (pre ++ c.1)) = true from hnm]
            refine iteF ⟨_, rfl, _, rfl, _, _, rfl, rfl, ll, _, rfl, N, _, rfl, .inl (SqL.of (s5 _ _ hN')), rfl, flat_strs _, _, rfl, ?_⟩
            rw [if_neg (by decide), inV_str]
            by_cases hmem : pre ++ c.1 ∈ nmS cs
            · rw [decide_eq_true hmem]
              exact iteT ⟨_, rfl, _, rfl, _, _, rfl, rfl, ll, z2, fun a ga => k "twice" (.str (pre ++ c.1)) a _ _ (.inr ⟨haz, .inr ⟨hpre, .inr (.inl ⟨"label", _, ⟨i, c, hc', hfit, rfl, .inr ⟨hnm, hmem, rfl, rfl⟩⟩, rfl, rfl⟩)⟩⟩) (sm5.trans (AT.Same.up ga)) (none_of sm5 ga) upd_same (.str _)⟩
            · rw [decide_eq_false hmem]
              have no1 : valV kvs (Sum.inr c.1) = none := by rw [hmp c.1, if_neg g1]
              have nec : c.2.1 ≠ c.1 := fun z => g1 (by rw [← z]; exact g2)
              have v2 : valV (putK kvs (Sum.inr c.1) (.str (pre ++ c.1))) (Sum.inr c.2.1) = some (.str (atN az pre c.2.1)) := by
                rw [valV_put, if_neg fun z => nec (Sum.inr.inj z), hmp c.2.1, if_pos g2]
              refine iteF ⟨_, rfl, _, rfl, _, _, rfl, rfl, ll, _, rfl, _, rfl, d, _, rfl, DPut.k (k := Sum.inr c.1) (s5 _ _ hdv) (by omega), ?_⟩
              have sd : ∀ (b : Addr) (o : HO), b ≠ d → H5 b = some o → upd H5 d (.dK (putK kvs (Sum.inr c.1) (.str (pre ++ c.1)))) b = some o := fun b o nb e => by rw [upd_ne nb]; exact e
              have hFo6 := sd _ _ nFd (s5 _ _ hys)
              have hyl := hy.length
              rw [List.length_append, List.length_map, List.length_take] at hyl
              refine ⟨_, rfl, .inl ⟨rfl, _, SqL.of hFo6⟩, _, rfl, _, rfl, _, _, rfl, rfl, ll, _, rfl, _, rfl, d, _, rfl, .inl ⟨_, Sum.inr c.2.1, .inl upd_same, rfl, v2.symm⟩, _, rfl, _, rfl, (by show 4 ≤ sizeLine; omega), fun t2 gt2 => ?_⟩
              have hd6 : upd H5 d (.dK (putK kvs (Sum.inr c.1) (.str (pre ++ c.1)))) d = some (.dK (putK kvs (Sum.inr c.1) (.str (pre ++ c.1)))) := upd_same
              have tt6 : TT H5 (upd H5 d (.dK (putK kvs (Sum.inr c.1) (.str (pre ++ c.1))))) := TT.up (s5 _ _ hdv) (fun _ z => nomatch z)
              have hN6 := sd _ _ nNd (s5 _ _ hN')
              have s6 : Same H (upd H5 d (.dK (putK kvs (Sum.inr c.1) (.str (pre ++ c.1))))) := AT.Same.new sm5 gd0
              generalize upd H5 d (.dK (putK kvs (Sum.inr c.1) (.str (pre ++ c.1)))) = H6 at hd6 tt6 hN6 s6 hFo6 gt2 ⊢
              have s7 := AT.Same.up (o := .tup [.str (pre ++ c.1), .str (atN az pre c.2.1), .str (uS c.2.2.1), .ref pr]) gt2
              have hFo7 := s7 _ _ hFo6
              have tu : TT (upd H6 t2 (.tup [.str (pre ++ c.1), .str (atN az pre c.2.1), .str (uS c.2.2.1), .ref pr])) (upd (upd H6 t2 (.tup [.str (pre ++ c.1), .str (atN az pre c.2.1), .str (uS c.2.2.1), .ref pr])) Fo (.lst (ys ++ [.ref t2]))) := TT.up hFo7 (fun _ z => nomatch z)
              have tall := ((TT.of s5).trans tt6).trans ((TT.of s7).trans tu)
              refine ⟨Fo, _, _, rfl, rfl, hFo7, (by omega), ⟨_, _, _, _, rfl⟩, AT.Same.new (s6.trans s7) gFo0, ?_, ⟨putK kvs (Sum.inr c.1) (.str (pre ++ c.1)), ?_, fun n => ?_, ?_⟩, ⟨_, upd_same, ?_⟩, fun j e hj he => ?_⟩
              · rw [upd_ne (Ne.symm nFN)]
                exact s7 _ _ hN6
              · rw [upd_ne (Ne.symm nFd)]
                exact s7 _ _ hd6
              · rw [valV_put, hmp n, List.take_add_one, hc']
                have en : nmS (ds.take i ++ (some c).toList) = nmS (ds.take i) ++ [c.1] := by
                  show ("start" : Str) :: (ds.take i ++ [c]).map (·.1) = _
                  rw [List.map_append]
                  rfl
                rw [en]
                by_cases e : n = c.1
                · subst e
                  rw [if_pos rfl, if_pos (List.mem_append_right _ (by simp))]
                  unfold atN
                  rw [if_neg fun z => g1 (by rw [z]; exact List.mem_cons_self)]
                · rw [if_neg fun z => e (Sum.inr.inj z)]
                  by_cases q : n ∈ nmS (ds.take i)
                  · rw [if_pos q, if_pos (List.mem_append_left _ q)]
                  · rw [if_neg q, if_neg fun z => by
                      rcases List.mem_append.mp z with z | z
                      · exact q z
                      · exact e (List.mem_singleton.mp z)]
              · rw [putK_new _ no1, List.length_append, List.length_singleton]
                omega
              · rw [List.take_add_one, hc', Option.toList_some, List.map_append, ← List.append_assoc]
                exact prd_app (Paired.mapP hy fun _ _ z => z.up tall) (.cons ⟨t2, pr, rfl, tu _ _ upd_same, tall _ _ (sm _ _ hpr)⟩ .nil)
              · by_cases h : j < i
                · exact hfit j e h he
                · have : j = i := by omega
                  subst this
                  rw [hc'] at he
                  cases he
                  exact ⟨hnm, hmem⟩
        · obtain ⟨⟨o8, o9, o10, o11, rfl⟩, sm, hN', _, ⟨ys, hys, hy⟩, hfit⟩ := hP
          rw [hwl] at hfit
          rw [hwl, List.take_length] at hy
          have hall : ∀ e ∈ ds, isNameS (pre ++ e.1) = true ∧ pre ++ e.1 ∉ nmS cs := fun e he => by
            obtain ⟨j, hj⟩ := List.mem_iff_getElem?.mp he
            exact hfit j e (List.getElem?_eq_some_iff.mp hj).1 hj
          have okA := att_ok hok hdk haz hall hlen
          refine ⟨_, rfl, Fo, _, rfl, ⟨ys, hys, hy⟩, okA, fun F ms H6 s6 gF hF pm => ⟨F, _, rfl, .inl (SqL.of hF), _, _, rfl, rfl, _, rfl, ?_⟩⟩
          have hml := pm.length
          have s06 := sm.trans s6
          have hcs6 : CsL H6 Fo (cs ++ ds.map (atC az pre)) := CsL.up ⟨ys, hys, hy⟩ s6
          refine ite2 (fun h1 => ?_) (fun h1 => ?_)
          · have h1' : (8 : Int) < ms.length := of_decide_eq_true h1
            exact ⟨z2, fun a ga => k "many" (.int 8) a _ _ (.inr ⟨haz, .inr ⟨hpre, .inr (.inr ⟨hall, .inl ⟨by omega, rfl, rfl⟩⟩)⟩⟩) (s06.trans (AT.Same.up ga)) (none_of s06 ga) upd_same (.int _)⟩
          · have h1' : ¬ (8 : Int) < ms.length := of_decide_eq_false (by simpa using h1)
            exact ⟨_, rfl, z2, fun a ga => k "cues" (cuesD (cs ++ ds.map (atC az pre))) a _ _ (.inr ⟨haz, .inr ⟨hpre, .inr (.inr ⟨hall, .inr ⟨by omega, rfl, rfl⟩⟩)⟩⟩) (s06.trans (AT.Same.up ga)) (none_of s06 ga) upd_same (dd_of (hcs6.up (AT.Same.up ga)).dp)⟩
    · rw [decide_eq_false haz]
      exact iteT ⟨_, rfl, z2, fun a ga => k "cue" (.str az) a _ _ (.inl ⟨haz, rfl, rfl⟩) (s1.trans (AT.Same.up ga)) (none_of s1 ga) upd_same (.str _)⟩
end
end K34

set_option maxHeartbeats 4000000
namespace K34
open PySem PySem.Spec PyProof.Rows L2 AT
section
variable {P : Program} {w : World} {K : PySem.W.Frag} {mg : Str → Option Value} {base : Heap}
/-! ### the rows that are unlike -/
def spUnlL : Sp := fun vs H Q _ => ∃ C D cs ds, vs = [.ref C, .ref D] ∧ CsL H C cs ∧ CsL H D ds ∧ CuesOk cs ∧ CuesOk ds ∧ ∀ F H', Same H H' → H F = none → H' F = some (.lst ((unlS cs ds).map V.str)) → Q (.ref F) H'
theorem sc_w_unlike : FnScope ["_law_cues_here", "_law_more", "_law_rows_here", "_law_others", "_law_name", "_law_found"] ["_law_cues_here", "_law_more"] (defScope s_w_unlike) := ⟨rfl, rfl, rfl, by decide +kernel, rfl, by decide +kernel, by decide +kernel⟩
theorem ok_w_unlike (T : Tx K mg base) : Ok P w K mg base 5 (d_w_unlike.loc K) ["_law_cues_here", "_law_more"] spUnlL := by
  refine mk_ok (k := 4) T.f_w_unlike sc_w_unlike (fun _ _ _ _ _ _ us hl => match us, hl with | [_, _], _ => rfl) (fun vs H Q E h => ?_) (fun cdv A outer s H vs Q E hr h => ?_)
  · obtain ⟨C, D, cs, ds, rfl, _⟩ := h
    rfl
  · obtain ⟨C, D, cs, ds, rfl, hC, hD, hok, hdk, k⟩ := h
    refine ⟨_, (Evl.pss_cut (ps_asg (pe_tup (pa_cons (ok_call (ok_w_rows T) (hr.mono (by decide)) rfl T.g_w_rows passL (pa_cons (pv 0) pa_nil)) (pa_cons (ok_call (ok_w_rows T) (hr.mono (by decide)) rfl T.g_w_rows passL (pa_cons (pv 1) pa_nil)) pa_nil))) (pg_tup rfl (pgs_cons (pg_name (i := 2) sc_w_unlike.nd rfl (Or.inr rfl)) (pgs_cons (pg_name (i := 3) sc_w_unlike.nd rfl (Or.inr rfl)) pgs_nil))))
      (pss_cons (ps_lock (ps_setLc (i := 5) (own := [("_law_name", 4)]) (g := (gName 4)) (by rfl) sc_w_unlike.nd rfl rfl (sw_true rfl rfl rfl (by decide +kernel)) (pi_keys (pv 2)) (blkOk_by (own := [("_law_name", 4)]) (N := ["_law_cues_here", "_law_more", "_law_rows_here", "_law_others", "_law_name", "_law_found"]) (sc := defScope s_w_unlike) (by decide +kernel)) (fun _ _ _ _ _ => (pg_name (i := 4) sc_w_unlike.nd rfl (Or.inl rfl))) (fun _ _ _ _ _ => (pts_one (PW.pt (pw_or (pt_cmp (pc_dnotin (by exact hu_of hr) (pv 4) (pv 3))) (pw_or1 (pt_cmpR (show OpR _ _ (rNeD K) from op_neD hr.units) (pe_dget (by exact hu_of hr) (pv 2) (pv 4) (fun _ _ => rfl)) (pe_dget (by exact hu_of hr) (pv 3) (pv 4) (fun _ _ => rfl)) (nomark _))))))) (fun _ _ _ _ _ => (pv 4))))
      (pss_one (ps_ret (pe_op op_cat (pv 5) (pe_lock (pe_lc (own := [("_law_name", 4)]) (g := (gName 4)) (by rfl) sc_w_unlike.nd (pi_keys (pv 3)) (blkOk_by (own := [("_law_name", 4)]) (N := ["_law_cues_here", "_law_more", "_law_rows_here", "_law_others", "_law_name", "_law_found"]) (sc := defScope s_w_unlike) (by decide +kernel)) (fun _ _ _ _ _ => (pg_name (i := 4) sc_w_unlike.nd rfl (Or.inl rfl))) (fun _ _ _ _ _ => (pts_one (pt_cmp (pc_dnotin (by exact hu_of hr) (pv 4) (pv 2))))) (fun _ _ _ _ _ => (pv 4))))))))), ?_⟩
    have hsz : sizeLine = 16777216 := sizeLine_eq
    have z2 : 2 ≤ sizeLine := by omega
    have hcl := hok.len
    have hdl := hdk.len
    refine ⟨fun σ' H1 => ∃ dR dO kr ko, σ' = ([some (.ref C), some (.ref D), some (.ref dR), some (.ref dO), none, none] : L2.St) ∧ Same H H1 ∧ H dR = none ∧ H dO = none ∧ dR ≠ dO ∧ H1 dR = some (.dK kr) ∧ H1 dO = some (.dK ko) ∧ Paired (KvR RwL H1) kr (PR.rowsF ("start" : Str) cs) ∧ Paired (KvR RwL H1) ko (PR.rowsF ("start" : Str) ds), ?_, ?_⟩
    · refine ⟨_, rfl, C, cs, rfl, hC, hok, fun dR kr H1 s1 gR hR pR => ⟨_, rfl, D, ds, rfl, hD.up s1, hdk, fun dO ko H2 s2 gO hO pO => ⟨z2, fun tp gtp => ⟨tp, _, rfl, SqT.of upd_same, rfl, _, _, rfl, _, _, rfl, rfl, ?_⟩⟩⟩⟩
      have sT := AT.Same.up (o := .tup [.ref dR, .ref dO]) gtp
      exact ⟨dR, dO, kr, ko, rfl, (s1.trans s2).trans sT, gR, none_of s1 gO, (by rintro rfl; rw [hR] at gO; cases gO), sT _ _ (s2 _ _ hR), sT _ _ hO, Paired.mapP pR fun _ _ z => ⟨z.1, z.2.up (TT.of (s2.trans sT))⟩, Paired.mapP pO fun _ _ z => ⟨z.1, z.2.up (TT.of sT)⟩⟩
    rintro σ' H1 ⟨dR, dO, kr, ko, rfl, s1, gR0, gO0, nRO, hR, hO, pR, pO⟩
    have nF : ∀ {H' : Hp} {d : Addr} {u : HO} {od : Option Addr}, True := fun {_ _ _ _} => trivial
    clear nF
    have hkr := pR.length
    have hko := pO.length
    rw [PR.rowsF_len] at hkr hko
    let p2 : Str → Bool := fun n => decide (n ∉ nmS cs)
    let p1 : Str → Bool := fun n => decide (n ∉ nmS ds) || decide (rowN cs n ≠ rowN ds n)
    refine ⟨dR, _, hR, True.intro, fun od => ?_⟩
    have t0 : TT H1 (upd H1 dR (.frz od (.dK kr))) := TT.up hR (fun _ z => nomatch z)
    have g6 : upd H1 dR (.frz od (.dK kr)) dR = some (.frz od (.dK kr)) := upd_same
    have gO : upd H1 dR (.frz od (.dK kr)) dO = some (.dK ko) := by rw [upd_ne (Ne.symm nRO)]; exact hO
    have g7 : Paired (KvR RwL (upd H1 dR (.frz od (.dK kr)))) kr (PR.rowsF ("start" : Str) cs) := Paired.mapP pR fun _ _ z => ⟨z.1, z.2.up t0⟩
    have g8 : Paired (KvR RwL (upd H1 dR (.frz od (.dK kr)))) ko (PR.rowsF ("start" : Str) ds) := Paired.mapP pO fun _ _ z => ⟨z.1, z.2.up t0⟩
    have back : ∀ {H' : Hp}, Same (upd H1 dR (.frz od (.dK kr))) H' → Same H1 (upd H' dR (.dK kr)) := fun {H'} s1 b o e => by
      by_cases hb : b = dR
      · subst hb
        rw [hR] at e
        cases e
        exact upd_same
      · rw [upd_ne hb]
        exact s1 _ _ (by rw [upd_ne hb]; exact e)
    have fr : ∀ {b : Addr}, upd H1 dR (.frz od (.dK kr)) b = none → H1 b = none ∧ b ≠ dR := fun {b} e => by
      have nb : b ≠ dR := by rintro rfl; rw [upd_same] at e; cases e
      rw [upd_ne nb] at e
      exact ⟨e, nb⟩
    generalize upd H1 dR (.frz od (.dK kr)) = H2 at t0 g6 gO g7 g8 back fr ⊢
    refine ⟨_, rfl, dR, od, rfl, .inl ⟨kr, g6, fun F gF => ?_⟩⟩
    refine lc_it (walk_keys (kvs := kr)) (fun j H' => Same H2 H' ∧ H' F = some (.lst (((((PR.rowsF ("start" : Str) cs).take j).map (·.1)).filter p1).map .str))) ⟨AT.Same.up gF, upd_same⟩ (fun j H' _ hP => hP.1 _ _ g6) (fun j x H' H3 hj hP hY => ?_) (fun H' hP => ?_)
    · obtain ⟨sm, hF⟩ := hP
      obtain ⟨rfl, kk, vv, hkv, rfl⟩ := hY
      obtain ⟨z, hz, hk, hrz⟩ := prd_getL g7 hkv
      dsimp only at hk
      subst hk
      have hzm : z.1 ∈ (PR.rowsF ("start" : Str) cs).map (·.1) := List.mem_map_of_mem (List.mem_of_getElem? hz)
      obtain ⟨vr, e1, e2⟩ := kv_val g7 hzm
      have ek : ((PR.rowsF ("start" : Str) cs).take (j + 1)).map (·.1) = ((PR.rowsF ("start" : Str) cs).take j).map (·.1) ++ [z.1] := by
        rw [List.take_add_one, hz, List.map_append]
        rfl
      have lt : ((((PR.rowsF ("start" : Str) cs).take j).map (·.1)).filter p1).length ≤ 40 := by
        refine Nat.le_trans (List.length_filter_le _ _) ?_
        rw [List.length_map, List.length_take, PR.rowsF_len]
        omega
      have yes : p1 z.1 = true → ∃ acc, H3 F = some (.lst acc) ∧ acc.length < sizeLine ∧ Same H2 (upd H3 F (.lst (acc ++ [.str z.1]))) ∧ upd H3 F (.lst (acc ++ [.str z.1])) F = some (.lst (((((PR.rowsF ("start" : Str) cs).take (j + 1)).map (·.1)).filter p1).map .str)) := fun e => by
        refine ⟨_, hF, by rw [List.length_map]; omega, AT.Same.new sm gF, ?_⟩
        rw [upd_same, ek, List.filter_append, List.map_append, List.filter_cons_of_pos e]
        rfl
      have no : p1 z.1 = false → Same H2 H3 ∧ H3 F = some (.lst (((((PR.rowsF ("start" : Str) cs).take (j + 1)).map (·.1)).filter p1).map .str)) := fun e => by
        refine ⟨sm, ?_⟩
        rw [ek, List.filter_append, List.filter_cons_of_neg (by rw [e]; decide), List.filter_nil, List.append_nil]
        exact hF
      have kin := kv_in (nm := (·.1)) (fun kv x q => q.1) g8 z.1
      rw [PR.rowsF_names] at kin
      refine ⟨rfl, ?_⟩
      refine ⟨_, rfl, _, rfl, dO, valV ko (Sum.inr z.1), rfl, .inl ⟨ko, Sum.inr z.1, .inl (sm _ _ gO), rfl, rfl⟩, _, rfl, ?_⟩
      rw [kin]
      have hd0 : decide (z.1 ∈ ("start" : Str) :: ds.map (·.1)) = decide (z.1 ∈ nmS ds) := rfl
      rw [hd0]
      by_cases hd : z.1 ∈ nmS ds
      · rw [decide_eq_true hd]
        obtain ⟨vo, f1, f2⟩ := kv_val g8 (n := z.1) (by rw [PR.rowsF_names]; exact hd)
        refine iteF ⟨_, rfl, _, rfl, dR, vr, rfl, .inl ⟨kr, Sum.inr z.1, .inr ⟨_, sm _ _ g6⟩, rfl, e1.symm⟩, _, rfl, _, rfl, dO, vo, rfl, .inl ⟨ko, Sum.inr z.1, .inl (sm _ _ gO), rfl, f1.symm⟩, ?_⟩
        refine ⟨_, _, (e2.up (TT.of sm)).dp, (f2.up (TT.of sm)).dp, rowDL_shaped _, rowDL_shaped _, _, rfl, ?_⟩
        rw [rowDL_eqv]
        have ep : p1 z.1 = !decide (rowN cs z.1 = rowN ds z.1) := by
          show (decide (z.1 ∉ nmS ds) || decide (rowN cs z.1 ≠ rowN ds z.1)) = _
          rw [decide_eq_false (p := z.1 ∉ nmS ds) (fun q => q hd), Bool.false_or]
          by_cases q : rowN cs z.1 = rowN ds z.1
          · rw [decide_eq_true q, decide_eq_false (fun y => y q)]; rfl
          · rw [decide_eq_false q, decide_eq_true q]; rfl
        cases hq : decide (rowN cs z.1 = rowN ds z.1) with
        | true => exact iteF (no (by rw [ep, hq]; rfl))
        | false => exact iteT ⟨_, rfl, yes (by rw [ep, hq]; rfl)⟩
      · rw [decide_eq_false hd]
        exact iteT (iteT ⟨_, rfl, yes (by show (decide (z.1 ∉ nmS ds) || _) = true; rw [decide_eq_true (p := z.1 ∉ nmS ds) hd]; rfl)⟩)
    · obtain ⟨sm, hF⟩ := hP
      have sB := back sm
      have hl1 : kr.length = (PR.rowsF ("start" : Str) cs).length := g7.length
      rw [hl1, List.take_length, PR.rowsF_names] at hF
      have hst : p1 "start" = false := by
        show (decide (("start" : Str) ∉ nmS ds) || decide (rowN cs "start" ≠ rowN ds "start")) = false
        have e1 : rowN cs "start" = [] := by obtain ⟨t, e⟩ := PR.rowsF_cons ("start" : Str) cs; unfold rowN PR.rowOf; rw [e]; rfl
        have e2 : rowN ds "start" = [] := by obtain ⟨t, e⟩ := PR.rowsF_cons ("start" : Str) ds; unfold rowN PR.rowOf; rw [e]; rfl
        rw [decide_eq_false (p := ("start" : Str) ∉ nmS ds) (fun q => q List.mem_cons_self), e1, e2]
        rfl
      rw [List.filter_cons_of_neg (by rw [hst]; decide)] at hF
      have hFB : upd H' dR (.dK kr) F = some (.lst (((cs.map (·.1)).filter p1).map V.str)) := by rw [upd_ne (fr gF).2]; exact hF
      have hOB := sB _ _ hO
      have hRB : upd H' dR (.dK kr) dR = some (.dK kr) := upd_same
      have pRB : Paired (KvR RwL (upd H' dR (.dK kr))) kr (PR.rowsF ("start" : Str) cs) := Paired.mapP pR fun _ _ z => ⟨z.1, z.2.up (TT.of sB)⟩
      have nFO : F ≠ dO := by rintro rfl; rw [gO] at gF; cases gF
      have gF1 := (fr gF).1
      refine ⟨sm _ _ g6, _, rfl, ?_⟩
      dsimp only
      generalize upd H' dR (.dK kr) = H4 at sB hFB hOB hRB pRB ⊢
      refine ⟨dO, _, hOB, True.intro, fun od2 => ?_⟩
      have i6 : upd H4 dO (.frz od2 (.dK ko)) dO = some (.frz od2 (.dK ko)) := upd_same
      have iR : upd H4 dO (.frz od2 (.dK ko)) dR = some (.dK kr) := by rw [upd_ne nRO]; exact hRB
      have iF : upd H4 dO (.frz od2 (.dK ko)) F = some (.lst (((cs.map (·.1)).filter p1).map V.str)) := by rw [upd_ne nFO]; exact hFB
      have t1 : TT H4 (upd H4 dO (.frz od2 (.dK ko))) := TT.up hOB (fun _ z => nomatch z)
      have i7 : Paired (KvR RwL (upd H4 dO (.frz od2 (.dK ko)))) kr (PR.rowsF ("start" : Str) cs) := Paired.mapP pRB fun _ _ z => ⟨z.1, z.2.up t1⟩
      have back2 : ∀ {H' : Hp}, Same (upd H4 dO (.frz od2 (.dK ko))) H' → Same H4 (upd H' dO (.dK ko)) := fun {H'} s1 b o e => by
        by_cases hb : b = dO
        · subst hb
          rw [hOB] at e
          cases e
          exact upd_same
        · rw [upd_ne hb]
          exact s1 _ _ (by rw [upd_ne hb]; exact e)
      have fr2 : ∀ {b : Addr}, upd H4 dO (.frz od2 (.dK ko)) b = none → b ≠ dO := fun {b} e => by rintro rfl; rw [upd_same] at e; cases e
      generalize upd H4 dO (.frz od2 (.dK ko)) = H5 at i6 iR iF t1 i7 back2 fr2 ⊢
      refine ⟨_, rfl, dO, od2, rfl, .inl ⟨ko, i6, fun G gG => ?_⟩⟩
      refine lc_it (walk_keys (kvs := ko)) (fun j H' => Same H5 H' ∧ H' G = some (.lst (((((PR.rowsF ("start" : Str) ds).take j).map (·.1)).filter p2).map .str))) ⟨AT.Same.up gG, upd_same⟩ (fun j H' _ hP => hP.1 _ _ i6) (fun j x H' H3 hj hP hY => ?_) (fun H' hP => ?_)
      · obtain ⟨sm2, hG⟩ := hP
        obtain ⟨rfl, kk, vv, hkv, rfl⟩ := hY
        obtain ⟨z, hz, hk, hrz⟩ := prd_getL pO hkv
        dsimp only at hk
        subst hk
        have ek : ((PR.rowsF ("start" : Str) ds).take (j + 1)).map (·.1) = ((PR.rowsF ("start" : Str) ds).take j).map (·.1) ++ [z.1] := by
          rw [List.take_add_one, hz, List.map_append]
          rfl
        have lt : ((((PR.rowsF ("start" : Str) ds).take j).map (·.1)).filter p2).length ≤ 40 := by
          refine Nat.le_trans (List.length_filter_le _ _) ?_
          rw [List.length_map, List.length_take, PR.rowsF_len]
          omega
        have kin := kv_in (nm := (·.1)) (fun kv x q => q.1) i7 z.1
        rw [PR.rowsF_names] at kin
        refine ⟨rfl, ?_⟩
        refine ⟨_, rfl, _, rfl, dR, valV kr (Sum.inr z.1), rfl, .inl ⟨kr, Sum.inr z.1, .inl (sm2 _ _ iR), rfl, rfl⟩, _, rfl, ?_⟩
        rw [kin]
        have hd0 : decide (z.1 ∈ ("start" : Str) :: cs.map (·.1)) = decide (z.1 ∈ nmS cs) := rfl
        rw [hd0]
        by_cases hd : z.1 ∈ nmS cs
        · rw [decide_eq_true hd]
          refine iteF ⟨sm2, ?_⟩
          rw [ek, List.filter_append, List.filter_cons_of_neg (p := p2) (by show ¬ decide (z.1 ∉ nmS cs) = true; rw [decide_eq_false (fun q => q hd)]; decide), List.filter_nil, List.append_nil]
          exact hG
        · rw [decide_eq_false hd]
          refine iteT ⟨_, rfl, _, hG, by rw [List.length_map]; omega, AT.Same.new sm2 gG, ?_⟩
          rw [upd_same, ek, List.filter_append, List.map_append, List.filter_cons_of_pos (p := p2) (decide_eq_true hd)]
          rfl
      · obtain ⟨sm2, hG⟩ := hP
        have hl2 : ko.length = (PR.rowsF ("start" : Str) ds).length := pO.length
        rw [hl2, List.take_length, PR.rowsF_names, List.filter_cons_of_neg (p := p2) (by show ¬ decide (("start" : Str) ∉ nmS cs) = true; rw [decide_eq_false (fun q => q List.mem_cons_self)]; decide)] at hG
        have sC := back2 sm2
        refine ⟨sm2 _ _ i6, F, G, _, _, rfl, rfl, sC _ _ hFB, (by rw [upd_ne (fr2 gG)]; exact hG), ?_, fun R gR => ?_⟩
        · rw [List.length_map, List.length_map]
          refine Nat.le_trans (Nat.add_le_add (List.length_filter_le _ _) (List.length_filter_le _ _)) ?_
          rw [List.length_map, List.length_map]
          omega
        · have sall := s1.trans (sB.trans sC)
          refine k R _ (sall.trans (AT.Same.up gR)) (none_of sall gR) ?_
          rw [upd_same, ← List.map_append]
          rfl
end
end K34

set_option maxHeartbeats 4000000
namespace K34
open PySem PySem.Spec PyProof.Rows L2 AT
def dsX : List Cue := [("art", "start", true, ((1 : Int) : Rat)), ("chorus2", "art", true, ((1 : Int) : Rat))]
theorem okX : CuesOk dsX := by
  have g1 : PR.Good ("start" : Str) [(("art" : Str), ("start" : Str), true, ((1 : Int) : Rat))] := PR.Good.snoc (st := ("start" : Str)) (cs := []) (c := (("art" : Str), ("start" : Str), true, ((1 : Int) : Rat))) .nil (by decide +kernel) (by decide +kernel)
  have g2 : PR.Good ("start" : Str) dsX := PR.Good.snoc (st := ("start" : Str)) (cs := [(("art" : Str), ("start" : Str), true, ((1 : Int) : Rat))]) (c := (("chorus2" : Str), ("art" : Str), true, ((1 : Int) : Rat))) g1 (by decide +kernel) (by decide +kernel)
  refine ⟨g2, ?_, ?_, by decide⟩
  · intro c hc
    simp only [dsX, List.mem_cons, List.not_mem_nil, or_false] at hc
    rcases hc with rfl | rfl
    · decide +kernel
    · decide +kernel
  · intro c hc
    simp only [dsX, List.mem_cons, List.not_mem_nil, or_false] at hc
    rcases hc with rfl | rfl
    · exact ⟨⟨by decide +kernel, by decide +kernel⟩, Nat.le_refl _⟩
    · exact ⟨⟨by decide +kernel, by decide +kernel⟩, Nat.le_refl _⟩
theorem momX : (momS dsX).length ≤ 8 := by decide +kernel
section
variable {P : Program} {w : World} {K : PySem.W.Frag} {mg : Str → Option Value} {base : Heap}
def spStR : Sp := fun vs H Q _ => vs = [] ∧ ∀ H', Same H H' → Q (.bl true) H'
theorem sc_w_start_right : FnScope ["_law_other", "e"] [] (defScope s_w_start_right) := ⟨rfl, rfl, rfl, by decide +kernel, rfl, by decide +kernel, by decide +kernel⟩
theorem ok_w_start_right (T : Tx K mg base) : Ok P w K mg base 16 (d_w_start_right.loc K) [] spStR := by
  refine mk_ok (k := 15) T.f_w_start_right sc_w_start_right (fun _ _ _ _ _ _ us hl => match us, hl with | [], _ => rfl) (fun vs H Q E h => ?_) (fun cdv A outer s H vs Q E hr h => ?_)
  · obtain ⟨rfl, _⟩ := h
    rfl
  · obtain ⟨rfl, k⟩ := h
    refine ⟨_, (pss_cons (ps_set (i := 0) sc_w_start_right.nd rfl (Or.inl rfl) (ok_make T.mkr_Sheet (ok_Sheet_init_ T) (hr.mono (by decide)) rfl T.g_Sheet (passE rfl rfl rfl rfl) (pa_cons (pe_lst (pa_cons (pe_tup (pa_cons pe_str (pa_cons pe_str (pa_cons pe_str (pa_cons pe_int pa_nil))))) (pa_cons (pe_tup (pa_cons pe_str (pa_cons pe_str (pa_cons pe_str (pa_cons pe_int pa_nil))))) pa_nil))) pa_nil)))
      (pss_cons (ps_try_m1 (tb := _) rfl rfl (fun W pn xe tk _ => (pss_one (ps_expr (ok_callS (ok_attached T) (hr.mono (by decide)) rfl T.g_attached tk (pa_cons (ok_makeS T.mkr_Sheet (ok_Sheet_init_ T) (hr.mono (by decide)) rfl T.g_Sheet tk (pa_cons (pe_lst pa_nil) pa_nil)) (pa_cons (pv 0) (pa_cons pe_str (pa_cons pe_str pa_nil)))))))) sc_w_start_right.nd (i := 1) rfl rfl ⟨rfl, by decide, .inl T.g_Duplicate⟩ (fun a oe cls d pn hz hf => (pss_one (ps_ret (pe_cmpR op_eq (pe_xf T.xc_Duplicate.xf T.xc_Duplicate.no hz hf (pv 1)) pe_str (nomark _))))))
      (pss_one (ps_ret pe_bl)))), ?_⟩
    have hsz : sizeLine = 16777216 := sizeLine_eq
    have z4 : 4 ≤ sizeLine := by omega
    refine ⟨z4, fun t1 g1 => ⟨z4, fun t2 g2 => ⟨(by show 2 ≤ sizeLine; omega), fun L gL => ?_⟩⟩⟩
    have u1 := AT.Same.up (o := .tup [.str "art", .str "start", .str "beats", .int 1]) g1
    have u2 := AT.Same.up (o := .tup [.str "chorus2", .str "art", .str "beats", .int 1]) g2
    have u3 := AT.Same.up (o := .lst [.ref t1, .ref t2]) gL
    have h1 := u3 _ _ (u2 _ _ (upd_same (H := H) (a := t1) (o := .tup [.str "art", .str "start", .str "beats", .int 1])))
    have h2 := u3 _ _ (upd_same (H := upd H t1 (.tup [.str "art", .str "start", .str "beats", .int 1])) (a := t2) (o := .tup [.str "chorus2", .str "art", .str "beats", .int 1]))
    have u13 := (u1.trans u2).trans u3
    refine mk_sheetR (.inr ⟨[.ref t1, .ref t2], dsX, ⟨L, rfl, .inl upd_same⟩, .cons ⟨.int 1, ⟨t1, rfl, .inr h1⟩, .int 1⟩ (.cons ⟨.int 1, ⟨t2, rfl, .inr h2⟩, .int 1⟩ .nil), (by show 2 ≤ 2; exact Nat.le_refl _), okX, .inr ⟨rfl, .inr ⟨momX, fun p1 H1 s1 gp1 hs1 => ?_⟩⟩⟩)
    have okn : CuesOk [] := ⟨.nil, by simp, by simp, by simp⟩
    refine ⟨Nat.zero_le _, fun e ge => ?_⟩
    have se := AT.Same.up (o := .lst []) ge
    refine mk_sheetR (shIn_of upd_same .nil (by simp) (by simp) (.inr ⟨.nil, .inr ⟨by decide, fun p2 H2 s2 gp2 hs2 => ?_⟩⟩))
    refine ⟨_, rfl, _, _, _, _, rfl, .inr ⟨p2, [], rfl, ⟨hs2, okn, by decide⟩, .inr ⟨p1, dsX, rfl, (show ShtOk K H1 p1 dsX from ⟨hs1, okX, momX⟩).up (se.trans s2), .str _, .inr ⟨"start", rfl, by simp, .str _, (fun z q => by cases q; decide), .inr ⟨"st", rfl, (by decide +kernel), .inl ⟨"Duplicate", "label", .str (("st" : Str) ++ "art"), ⟨0, _, rfl, fun j e h => absurd h (Nat.not_lt_zero _), rfl, .inr ⟨(by decide +kernel), (by decide +kernel), rfl, rfl⟩⟩, fun H3 d0 s3 hd3 hx => ⟨T.ex_Duplicate_Duplicate, fun a0 ha => ⟨_, rfl, rfl, rfl, d0, _, _, rfl, hx, rfl, rfl, ?_⟩⟩⟩⟩⟩⟩⟩⟩
    rw [show decide (V.str (("st" : Str) ++ "art") = V.str "start") = true by decide +kernel]
    exact k H3 ((u13.trans s1).trans ((se.trans s2).trans s3))
end
end K34

set_option maxHeartbeats 4000000
namespace K34
open PySem PySem.Spec PyProof.Rows L2 AT
theorem prd_eraseIdx {α β : Type} {F : α → β → Prop} : ∀ {l : List α} {m : List β}, Paired F l m → ∀ j, Paired F (l.eraseIdx j) (m.eraseIdx j)
  | _, _, .nil, _ => .nil
  | _, _, .cons _ t, 0 => t
  | _, _, .cons h t, j + 1 => .cons h (prd_eraseIdx t j)
/-! ### told cues of plain data, compared -/
theorem pair_refl : Refl CPair := fun x H b h => by
  rcases h with ⟨a, e, _, rfl⟩ | ⟨h1, _, rfl⟩
  · rfl
  · cases x <;> first | (simp [eqV]; done) | (simp [flatV] at h1; done)
def CPT : Cmp := fun x y H b => CPair x y H b ∨ CTuH CPair x y H b
theorem eqB_pt {X : Cx} : EqB X 1 CPT := EqB.or (eqB_pair.mono (by decide)) (eqB_tuH eqB_pair pair_refl)
theorem pt_refl : Refl CPT := fun x H b h => by
  rcases h with h | ⟨p, q, xs, ys, e, rfl, e2, h1, h2, he, rfl⟩
  · exact pair_refl x H b h
  · cases e2
    rw [h1] at h2
    cases h2
    rw [Nat.min_self, beq_self_eq_true, Bool.and_true, List.all_eq_true]
    intro i hi
    have hl : i < xs.length := List.mem_range.mp hi
    exact pair_refl _ _ _ (he i _ _ (List.getElem?_eq_getElem hl) (List.getElem?_eq_getElem hl))
theorem eqB_cueL {X : Cx} : EqB X 2 (CTuH CPT) := eqB_tuH eqB_pt pt_refl
theorem pairQ_cmp {H : Hp} {a b : Addr} {p q : Rat} (h : H a = some (pairQ p)) (g : H b = some (pairQ q)) : CTuH CPair (.ref a) (.ref b) H (decide (p = q)) := by
  refine ⟨a, b, _, _, fun i => if i = 0 then decide (p.num = q.num) else decide ((p.den : Int) = q.den), rfl, rfl, h, g, fun i x y h1 h2 => ?_, ?_⟩
  · match i, h1, h2 with
    | 0, h1, h2 =>
      cases h1
      cases h2
      exact .inr ⟨rfl, rfl, by unfold eqV; rw [Bool.eq_iff_iff]; simp⟩
    | 1, h1, h2 =>
      cases h1
      cases h2
      exact .inr ⟨rfl, rfl, by unfold eqV; rw [Bool.eq_iff_iff]; simp⟩
    | i + 2, h1, h2 => simp at h1
  · show decide (p = q) = ((List.range 2).all _ && true)
    rw [show List.range 2 = [0, 1] from rfl]
    simp only [List.all_cons, List.all_nil, Bool.and_true, if_true]
    rw [Bool.eq_iff_iff]
    simp only [decide_eq_true_eq, Bool.and_eq_true, Nat.one_ne_zero, if_false]
    exact ⟨fun e => by subst e; exact ⟨rfl, rfl⟩, fun ⟨h1, h2⟩ => Rat.ext h1 (Int.ofNat_inj.mp h2)⟩
theorem cueL_cmp {H : Hp} {v v' : V} {c c' : Cue} (h : CuL H v c) (g : CuL H v' c') : CTuH CPT v v' H (decide (c = c')) := by
  obtain ⟨t, p, rfl, ht, hp⟩ := h
  obtain ⟨t', p', rfl, ht', hp'⟩ := g
  refine ⟨t, t', _, _, fun i => if i = 0 then decide (c.1 = c'.1) else if i = 1 then decide (c.2.1 = c'.2.1) else if i = 2 then decide (uS c.2.2.1 = uS c'.2.2.1) else decide (c.2.2.2 = c'.2.2.2), rfl, rfl, ht, ht', fun i a b h1 h2 => ?_, ?_⟩
  · match i, h1, h2 with
    | 0, h1, h2 =>
      cases h1
      cases h2
      exact .inl (.inr ⟨rfl, rfl, by unfold eqV; rw [Bool.eq_iff_iff]; simp⟩)
    | 1, h1, h2 =>
      cases h1
      cases h2
      exact .inl (.inr ⟨rfl, rfl, by unfold eqV; rw [Bool.eq_iff_iff]; simp⟩)
    | 2, h1, h2 =>
      cases h1
      cases h2
      exact .inl (.inr ⟨rfl, rfl, by unfold eqV; rw [Bool.eq_iff_iff]; simp⟩)
    | 3, h1, h2 =>
      cases h1
      cases h2
      exact .inr (pairQ_cmp hp hp')
    | i + 4, h1, h2 => simp at h1
  · obtain ⟨a, b, u, q⟩ := c
    obtain ⟨a', b', u', q'⟩ := c'
    have eu : decide (uS u = uS u') = decide (u = u') := by cases u <;> cases u' <;> decide
    show decide ((a, b, u, q) = (a', b', u', q')) = ((List.range 4).all _ && true)
    rw [show List.range 4 = [0, 1, 2, 3] from rfl]
    simp only [List.all_cons, List.all_nil, Bool.and_true, if_true, eu]
    rw [Bool.eq_iff_iff]
    simp
section
variable {P : Program} {w : World} {K : PySem.W.Frag} {mg : Str → Option Value} {base : Heap}
/-! ### the cues in another order -/
def spMix : Sp := fun vs H Q _ => ∃ p n D cs, vs = [.ref p, .ref D] ∧ BoxAt H p n ∧ n ≤ 8000 ∧ D ≠ p ∧ CsL H D cs ∧ CuesOk cs ∧ ∀ F es H', SameX p H H' → BoxAt H' p (n + cs.length) → F ≠ p → H F = none → CsL H' F es → es.Perm cs → PR.Good ("start" : Str) es → Q (.ref F) H'
theorem sc_w_mixed : FnScope ["_law_box_here", "_law_cues_here", "_law_found", "_law_names", "_law_left", "_law_cue", "_law_some"] ["_law_box_here", "_law_cues_here"] (defScope s_w_mixed) := ⟨rfl, rfl, rfl, by decide +kernel, rfl, by decide +kernel, by decide +kernel⟩
theorem ok_w_mixed (T : Tx K mg base) : Ok P w K mg base 6 (d_w_mixed.loc K) ["_law_box_here", "_law_cues_here"] spMix := by
  refine mk_ok (k := 5) T.f_w_mixed sc_w_mixed (fun _ _ _ _ _ _ us hl => match us, hl with | [_, _], _ => rfl) (fun vs H Q E h => ?_) (fun cdv A outer s H vs Q E hr h => ?_)
  · obtain ⟨p, n, D, cs, rfl, _⟩ := h
    rfl
  · obtain ⟨p, n, D, cs, rfl, hb, hn, nD, hcs, hok, k⟩ := h
    refine ⟨_, (Evl.pss_cut (ps_asg (pe_tup (pa_cons (pe_lst pa_nil) (pa_cons (pe_lst (pa_cons pe_str pa_nil)) (pa_cons (pe_callTy call_list_of (by rfl) T.b_list (by decide +kernel) (pa_cons (pv 1) pa_nil)) pa_nil)))) (pg_tup rfl (pgs_cons (pg_name (i := 2) sc_w_mixed.nd rfl (Or.inl rfl)) (pgs_cons (pg_name (i := 3) sc_w_mixed.nd rfl (Or.inr rfl)) (pgs_cons (pg_name (i := 4) sc_w_mixed.nd rfl (Or.inl rfl)) pgs_nil)))))
      (pss_cons (ps_while (passes_of rfl) (pt_cmpR (show OpR _ _ (rNeE K) from op_neE hr.units) (pv 4) (pe_lst pa_nil) (nomark _)) (pss_cons (ps_setLc (i := 6) (own := [("_law_cue", 5)]) (g := (gName 5)) (by rfl) sc_w_mixed.nd rfl rfl (sw_true rfl rfl rfl (by decide +kernel)) (pi_list (pv 4)) (blkOk_by (own := [("_law_cue", 5)]) (N := ["_law_box_here", "_law_cues_here", "_law_found", "_law_names", "_law_left", "_law_cue", "_law_some"]) (sc := defScope s_w_mixed) (by decide +kernel)) (fun _ _ _ _ _ => (pg_name (i := 5) sc_w_mixed.nd rfl (Or.inl rfl))) (fun _ _ _ _ _ => (pts_one (pt_cmpR (show OpR _ _ (rIn K false) from op_in_seq) (pe_ix (show IxR _ (rIxT K) from ix_tup) (pv 5) pe_int (fun _ _ => rfl)) (pv 3) (by rfl)))) (fun _ _ _ _ _ => (pv 5)))
      (pss_cons (ps_set (i := 5) sc_w_mixed.nd rfl (Or.inl rfl) (pe_ix ix_list (pv 6) (ok_call (ok_w_take T) (hr.mono (by decide)) rfl T.g_w_take passL (pa_cons (pv 0) (pa_cons (pe_callB call_len_seq (by rfl) T.b_len (by decide +kernel) (pa_cons (pv 6) pa_nil)) pa_nil))) (fun _ _ => rfl)))
      (pss_cons (ps_expr (pe_bm PySem.F.plainAttrs_list PySem.F.slot_list_append PySem.F.type_list_append mt_append (pv 2) (pa_cons (pv 5) pa_nil)))
      (pss_cons (ps_expr (pe_bm PySem.F.plainAttrs_list PySem.F.slot_list_append PySem.F.type_list_append mt_append (pv 3) (pa_cons (pe_ix ix_tup (pv 5) pe_int (fun _ _ => rfl)) pa_nil)))
      (pss_one (ps_expr (pe_bm PySem.F.plainAttrs_list PySem.F.slot_list_remove PySem.F.type_list_remove (mt_removeB eqB_cueL (hr.mono (by decide))) (pv 4) (pa_cons (pv 5) pa_nil)))))))))
      (pss_one (ps_ret (pv 2))))), ?_⟩
    have hsz : sizeLine = 16777216 := sizeLine_eq
    have hcl := hok.len
    obtain ⟨xs, hD, hx⟩ := id hcs
    have hxl := hx.length
    refine ⟨fun σ' H1 => ∃ A B C, σ' = ([some (.ref p), some (.ref D), some (.ref A), some (.ref B), some (.ref C), none, none] : L2.St) ∧ Same H H1 ∧ H A = none ∧ H B = none ∧ H C = none ∧ A ≠ B ∧ A ≠ C ∧ B ≠ C ∧ H1 A = some (.lst []) ∧ H1 B = some (.lst [.str "start"]) ∧ H1 C = some (.lst xs), ?_, ?_⟩
    · refine ⟨Nat.zero_le _, fun A gA => ⟨(by show 1 ≤ sizeLine; omega), fun B gB => ?_⟩⟩
      have sA := AT.Same.up (o := .lst []) gA
      have sB := AT.Same.up (o := .lst [.str "start"]) gB
      have nBA : A ≠ B := by rintro rfl; rw [upd_same] at gB; cases gB
      have hA := sB _ _ (upd_same (H := H) (a := A) (o := .lst []))
      refine ⟨_, rfl, D, _, rfl, .inl (SqL.of ((sA.trans sB) _ _ hD)), fun C gC => ⟨(by show 3 ≤ sizeLine; omega), fun tp gtp => ?_⟩⟩
      have sC := AT.Same.up (o := .lst xs) gC
      have sT := AT.Same.up (o := .tup [.ref A, .ref B, .ref C]) gtp
      have nAC : A ≠ C := by rintro rfl; rw [hA] at gC; cases gC
      have nBC : B ≠ C := by rintro rfl; rw [upd_same] at gC; cases gC
      refine ⟨tp, _, rfl, SqT.of upd_same, rfl, _, _, rfl, _, _, rfl, _, _, rfl, rfl, ?_⟩
      exact ⟨A, B, C, rfl, ((sA.trans sB).trans sC).trans sT, gA, none_of sA gB, none_of (sA.trans sB) gC, nBA, nAC, nBC, sT _ _ (sC _ _ hA), sT _ _ (sC _ _ upd_same), sT _ _ upd_same⟩
    rintro σ' H1 ⟨A, B, C, rfl, s1, gA, gB, gC, nAB, nAC, nBC, hA1, hB1, hC1⟩
    have b1 := hb.up s1
    have pn : ∀ {a : Addr}, H a = none → a ≠ p := fun g => box_ne2 hb g
    have nAp := pn gA
    have nBp := pn gB
    have nCp := pn gC
    refine ⟨fun m σ' H' => ∃ (es ls : List Cue) (vs ys : List V) (o5 o6 : Option V), m = ls.length ∧ σ' = ([some (.ref p), some (.ref D), some (.ref A), some (.ref B), some (.ref C), o5, o6] : L2.St) ∧ SameX p H H' ∧ BoxAt H' p (n + es.length) ∧ (es ++ ls).Perm cs ∧ PR.Good ("start" : Str) es ∧ H' A = some (.lst ys) ∧ Paired (CuL H') ys es ∧ H' B = some (.lst ((nmS es).map V.str)) ∧ H' C = some (.lst vs) ∧ Paired (CuL H') vs ls, ⟨_, [], cs, xs, [], none, none, rfl, rfl, sameX_of s1, b1, .refl _, .nil, hA1, .nil, hB1, hC1, Paired.mapP hx fun _ _ z => z.up (TT.of s1)⟩, ?_⟩
    rintro m σ' H' ⟨es, ls, vs, ys, o5, o6, rfl, rfl, x1, b2, hp, hg, hA, hy, hB, hC, hv⟩
    have hvl := hv.length
    have hyl := hy.length
    have hlen := hp.length_eq
    rw [List.length_append] at hlen
    refine ⟨_, rfl, Nat.zero_le _, fun t gt => ?_⟩
    have st := AT.Same.up (o := .lst []) gt
    refine ⟨vs, ⟨C, t, rfl, rfl, SqL.of (st _ _ hC), SqL.of upd_same⟩, _, rfl, ?_⟩
    cases hls : ls with
    | nil =>
      subst hls
      have ev : vs = [] := List.eq_nil_of_length_eq_zero hvl
      subst ev
      refine iteF ⟨_, rfl, ?_⟩
      rw [List.append_nil] at hp
      have hel := hp.length_eq
      exact k A es _ (x1.trans (sameX_of st)) ((b2.up st).mono (by omega)) nAp gA ⟨ys, st _ _ hA, Paired.mapP hy fun _ _ z => z.up (TT.of st)⟩ hp hg
    | cons c0 l0 =>
      have hne : ls ≠ [] := by rw [hls]; nofun
      have hve : vs.isEmpty = false := by
        cases vs with
        | nil => rw [hls] at hvl; cases hvl
        | cons => rfl
      rw [← hls, hve]
      clear hls
      refine iteT ⟨fun σ2 H2 => ∃ (es ls' : List Cue) (vs ys : List V) (o5 o6 : Option V), ls'.length < ls.length ∧ σ2 = ([some (.ref p), some (.ref D), some (.ref A), some (.ref B), some (.ref C), o5, o6] : L2.St) ∧ SameX p H H2 ∧ BoxAt H2 p (n + es.length) ∧ (es ++ ls').Perm cs ∧ PR.Good ("start" : Str) es ∧ H2 A = some (.lst ys) ∧ Paired (CuL H2) ys es ∧ H2 B = some (.lst ((nmS es).map V.str)) ∧ H2 C = some (.lst vs) ∧ Paired (CuL H2) vs ls', fun σ2 H2 ⟨es, ls', vs, ys, o5, o6, h1, h2⟩ => ⟨_, h1, es, ls', vs, ys, o5, o6, rfl, h2⟩, ?_⟩
      have b3 := b2.up st
      have hA3 := st _ _ hA
      have hB3 := st _ _ hB
      have hC3 := st _ _ hC
      have hy3 : Paired (CuL (upd H' t (.lst []))) ys es := Paired.mapP hy fun _ _ z => z.up (TT.of st)
      have hv3 : Paired (CuL (upd H' t (.lst []))) vs ls := Paired.mapP hv fun _ _ z => z.up (TT.of st)
      have x3 := x1.trans (sameX_of (p := p) st)
      generalize upd H' t (.lst []) = H3 at b3 hA3 hB3 hC3 hy3 hv3 x3 ⊢
      refine ⟨_, rfl, C, rfl, ⟨_, SqL.of hC3⟩, fun F gF => ?_⟩
      refine lc_list (K := K) (a := C) (xs := vs) (fun j Hj => Same H3 Hj ∧ ∃ zs, Hj F = some (.lst zs) ∧ zs.length ≤ j ∧ (∀ z ∈ zs, ∃ (i : Nat) (c : Cue), vs[i]? = some z ∧ ls[i]? = some c ∧ c.2.1 ∈ nmS es) ∧ ∀ (i : Nat) (c : Cue), i < j → ls[i]? = some c → c.2.1 ∈ nmS es → zs ≠ []) ⟨AT.Same.up gF, [], upd_same, Nat.le_refl _, by simp, fun i c h => absurd h (Nat.not_lt_zero _)⟩ (fun j Hj _ hP => SqL.of (hP.1 _ _ hC3)) (fun j x Hj hxj hP => ?_) (fun H4 hP => ?_)
      · obtain ⟨sm, zs, hF, hzl, hz1, hz2⟩ := hP
        have hj : j < vs.length := (List.getElem?_eq_some_iff.mp hxj).1
        obtain ⟨c, hc, tc, pr, rfl, htc, hpr⟩ := prd_getL hv3 hxj
        refine ⟨rfl, ?_⟩
        refine ⟨_, rfl, tc, _, 1, _, rfl, rfl, SqT.of (sm _ _ htc), rfl, _, rfl, B, _, rfl, .inl (SqL.of (sm _ _ hB3)), rfl, flat_strs _, _, rfl, ?_⟩
        rw [if_neg (by decide), inV_str]
        by_cases hin : c.2.1 ∈ nmS es
        · rw [decide_eq_true hin]
          refine iteT ⟨_, rfl, zs, hF, by omega, AT.Same.new sm gF, zs ++ [.ref tc], upd_same, by rw [List.length_append, List.length_singleton]; omega, fun z hz => ?_, fun i c _ _ _ => by simp⟩
          rcases List.mem_append.mp hz with hz | hz
          · exact hz1 z hz
          · rw [List.mem_singleton] at hz
            subst hz
            exact ⟨j, c, hxj, hc, hin⟩
        · rw [decide_eq_false hin]
          refine iteF ⟨sm, zs, hF, by omega, hz1, fun i d hi hd hd2 => ?_⟩
          by_cases e : i < j
          · exact hz2 i d e hd hd2
          · have : i = j := by omega
            subst this
            rw [hc] at hd
            cases hd
            exact absurd hd2 hin
      obtain ⟨sm, zs, hF, hzl, hz1, hz2⟩ := hP
      obtain ⟨d0, hd0, hd1⟩ := PR.mix_some hok.good hp hne
      obtain ⟨i0, hi0⟩ := List.mem_iff_getElem?.mp hd0
      have hi0l : i0 < ls.length := (List.getElem?_eq_some_iff.mp hi0).1
      have hzne := hz2 i0 d0 (by omega) hi0 hd1
      have hzp : 0 < zs.length := List.length_pos_iff.mpr hzne
      have b4 := b3.up sm
      have hA4 := sm _ _ hA3
      have hB4 := sm _ _ hB3
      have hC4 := sm _ _ hC3
      have x4 := x3.trans (sameX_of (p := p) sm)
      have nF : F ≠ p := box_ne2 b3 gF
      refine ⟨_, rfl, _, rfl, _, rfl, F, _, rfl, .inl (SqL.of hF), p, _, _, rfl, b4, (by omega), (by omega), big1 (by omega), fun r H5 r0 r1 x5 b5 => ?_⟩
      obtain ⟨rn, rfl⟩ := Int.eq_ofNat_of_zero_le r0
      have hrn : rn < zs.length := by omega
      obtain ⟨j, c, hj, hc, hpar⟩ := hz1 _ (List.getElem_mem hrn)
      have tt : TT H3 H5 := (TT.of sm).trans (SameX.tt b4 x5)
      have hy5 : Paired (CuL H5) ys es := Paired.mapP hy3 fun _ _ z => z.up tt
      have hv5 : Paired (CuL H5) vs ls := Paired.mapP hv3 fun _ _ z => z.up tt
      obtain ⟨c', hc', hcu⟩ := prd_getL hv5 hj
      rw [hc] at hc'
      cases hc'
      obtain ⟨tc, pr, hz0, htc, hpr⟩ := id hcu
      have hA5 := x5 _ _ nAp hA4
      have hB5 := x5 _ _ nBp hB4
      have hC5 := x5 _ _ nCp hC4
      have hF5 := x5 _ _ nF hF
      have xx5 := x4.trans x5
      have hjl : j < vs.length := (List.getElem?_eq_some_iff.mp hj).1
      refine ⟨F, _, _, .ref tc, rfl, rfl, SqL.of hF5, atI_nat (by rw [List.getElem?_eq_getElem hrn, hz0]), ?_⟩
      refine ⟨_, rfl, .inl ⟨rfl, _, SqL.of hA5⟩, _, rfl, A, _, _, rfl, rfl, hA5, (by omega), ?_⟩
      have tA : TT H5 (upd H5 A (.lst (ys ++ [.ref tc]))) := TT.up hA5 (fun _ z => nomatch z)
      have xA : SameX p H (upd H5 A (.lst (ys ++ [.ref tc]))) := SameX.new xx5 gA
      have bA : BoxAt (upd H5 A (.lst (ys ++ [.ref tc]))) p _ := b5.upd nAp
      have hA6 : upd H5 A (.lst (ys ++ [.ref tc])) A = some (.lst (ys ++ [.ref tc])) := upd_same
      have hB6 : upd H5 A (.lst (ys ++ [.ref tc])) B = some (.lst ((nmS es).map V.str)) := by rw [upd_ne (Ne.symm nAB)]; exact hB5
      have hC6 : upd H5 A (.lst (ys ++ [.ref tc])) C = some (.lst vs) := by rw [upd_ne (Ne.symm nAC)]; exact hC5
      generalize upd H5 A (.lst (ys ++ [.ref tc])) = H6 at tA xA bA hA6 hB6 hC6 ⊢
      have hnl : ((nmS es).map V.str).length < sizeLine := by
        rw [List.length_map]
        show (es.map (·.1)).length + 1 < sizeLine
        rw [List.length_map]
        omega
      refine ⟨_, rfl, .inl ⟨rfl, _, SqL.of hB6⟩, _, rfl, tc, _, 0, _, rfl, rfl, SqT.of (tA _ _ htc), rfl, B, _, _, rfl, rfl, hB6, hnl, ?_⟩
      have tB : TT H6 (upd H6 B (.lst ((nmS es).map V.str ++ [.str c.1]))) := TT.up hB6 (fun _ z => nomatch z)
      have xB : SameX p H (upd H6 B (.lst ((nmS es).map V.str ++ [.str c.1]))) := SameX.new xA gB
      have bB : BoxAt (upd H6 B (.lst ((nmS es).map V.str ++ [.str c.1]))) p _ := bA.upd nBp
      have hA7 : upd H6 B (.lst ((nmS es).map V.str ++ [.str c.1])) A = some (.lst (ys ++ [.ref tc])) := by rw [upd_ne nAB]; exact hA6
      have hB7 : upd H6 B (.lst ((nmS es).map V.str ++ [.str c.1])) B = some (.lst ((nmS (es ++ [c])).map V.str)) := by
        rw [upd_same]
        show some (HO.lst _) = some (.lst ((("start" : Str) :: (es ++ [c]).map (·.1)).map V.str))
        rw [List.map_append, ← List.cons_append, List.map_append]
        rfl
      have hC7 : upd H6 B (.lst ((nmS es).map V.str ++ [.str c.1])) C = some (.lst vs) := by rw [upd_ne (Ne.symm nBC)]; exact hC6
      generalize upd H6 B (.lst ((nmS es).map V.str ++ [.str c.1])) = H7 at tB xB bB hA7 hB7 hC7 ⊢
      have t57 := tA.trans tB
      have hv7 : Paired (CuL H7) vs ls := Paired.mapP hv5 fun _ _ z => z.up t57
      have hcu7 := hcu.up t57
      rw [hz0] at hcu7 hj
      refine ⟨_, rfl, .inl ⟨rfl, _, SqL.of hC7⟩, _, rfl, C, .ref tc, vs, fun i => match ls[i]? with | some d => decide (d = c) | none => false, j, rfl, rfl, hC7, fun i z hz => ?_, hjl, by omega, ?_, fun m hm => ?_, ?_⟩
      · obtain ⟨d, hd, hdu⟩ := prd_getL hv7 hz
        dsimp only
        rw [hd]
        exact cueL_cmp hdu hcu7
      · dsimp only
        rw [hc]
        exact decide_eq_true rfl
      · dsimp only
        obtain ⟨d, hd⟩ : ∃ d, ls[m]? = some d := ⟨_, List.getElem?_eq_getElem (by omega)⟩
        rw [hd]
        refine decide_eq_false fun e => ?_
        have := PR.mix_one hok.good hp hd hc (by rw [e])
        omega
      · have tC : TT H7 (upd H7 C (.lst (vs.eraseIdx j))) := TT.up hC7 (fun _ z => nomatch z)
        have t58 := t57.trans tC
        refine ⟨es ++ [c], ls.eraseIdx j, vs.eraseIdx j, ys ++ [.ref tc], _, _, ?_, rfl, SameX.new xB gC, (bB.upd nCp).mono (by rw [List.length_append, List.length_singleton]; omega), PR.mix_step hp hc, .snoc hg (PR.mix_new hok.good hp (List.mem_of_getElem? hc)) hpar, ?_, ?_, ?_, upd_same, ?_⟩
        · have : j < ls.length := by omega
          rw [List.length_eraseIdx_of_lt this]
          omega
        · rw [upd_ne nAC]
          exact hA7
        · exact prd_app (Paired.mapP hy5 fun _ _ z => z.up t58) (.cons (by rw [hz0] at hcu; exact hcu.up t58) .nil)
        · rw [upd_ne nBC]
          exact hB7
        · exact Paired.mapP (prd_eraseIdx hv7 j) fun _ _ z => z.up tC
end
end K34

set_option maxHeartbeats 4000000
namespace K34
open PySem PySem.Spec PyProof.Rows L2 AT
/-! ### what is told can be shown -/
theorem Shw.str {z : Str} {L : Nat} (h : ∀ c ∈ z.cps.toList, c < 1114112) (hl : z.length ≤ L) : Shw (.str z) 0 (10 * L + 2) := by
  refine ⟨by simp [PyData.showable], by simp [PyData.depth], ?_⟩
  rw [PyData.shown_str]
  have := StrLaws.reprText_len z fun c hc => Nat.lt_of_lt_of_le (h c hc) (by decide)
  omega
theorem Shw.bl (b : Bool) : Shw (.bool b) 0 5 := ⟨by simp [PyData.showable], by simp [PyData.depth], by rw [PyData.shown_bool]; cases b <;> decide +kernel⟩
theorem shw_bl_ok (b : Bool) : (PyData.bool b).showable = true ∧ (PyData.bool b).depth ≤ 50 ∧ (PyData.bool b).shown.length ≤ sizeLine := (Shw.bl b).ok (by decide) (by decide)
def strsD (l : List Str) : PyData := .list (l.map PyData.str)
theorem strD_eqv (a b : Str) : PyData.eqv (.str a) (.str b) = decide (a = b) := by
  rw [Bool.eq_iff_iff]
  simp [PyData.eqv]
theorem strsD_eqv (l m : List Str) : PyData.eqv (strsD l) (strsD m) = decide (l = m) := by
  have e : PyData.eqv (strsD l) (strsD m) = PyData.eqvAll (l.map PyData.str) (m.map PyData.str) := by simp only [strsD, PyData.eqv]
  rw [e, eqvAll_map strD_eqv]
theorem dp_strs {K : PySem.W.Frag} {H : Hp} : ∀ l : List Str, DpAll K H (l.map V.str) (l.map PyData.str)
  | [] => .nil
  | z :: l => .cons (.str z) (dp_strs l)
theorem unl_mem {cs ds : List Cue} {z : Str} (h : z ∈ unlS cs ds) : (∃ c ∈ cs, c.1 = z) ∨ ∃ c ∈ ds, c.1 = z := by
  rcases List.mem_append.mp h with h | h
  · obtain ⟨c, hc, e⟩ := List.mem_map.mp (List.mem_filter.mp h).1
    exact .inl ⟨c, hc, e⟩
  · obtain ⟨c, hc, e⟩ := List.mem_map.mp (List.mem_filter.mp h).1
    exact .inr ⟨c, hc, e⟩
theorem strsD_lay {l : List Str} (h : ∀ z ∈ l, PyData.strOk z = true) : (strsD l).canLay0 = true := by
  simp only [strsD, PyData.canLay0]
  exact lay_mem fun z hz => by simp only [PyData.canLay0]; exact h z hz
theorem strsD_depth (l : List Str) : (strsD l).depth ≤ 1 := by
  have := depth_all (D := PyData.str) (n := 0) (fun z => by simp [PyData.depth]) l
  simp only [strsD, PyData.depth]
  omega
theorem unl_lay {cs ds : List Cue} (h : CuesOk cs) (g : CuesOk ds) : (strsD (unlS cs ds)).canLay0 = true := strsD_lay fun z hz => by
  rcases unl_mem hz with ⟨c, hc, rfl⟩ | ⟨c, hc, rfl⟩
  · exact name_strOk (h.name c hc)
  · exact name_strOk (g.name c hc)
def twoD (a b : List Str) : PyData := .list [strsD a, strsD b]
theorem twoD_eqv (a b : List Str) : PyData.eqv (twoD a b) (twoD a b) = true := by
  simp [twoD, PyData.eqv, PyData.eqvAll, strsD_eqv]
theorem twoD_shaped {a b : List Str} (h : (strsD a).canLay0 = true) (g : (strsD b).canLay0 = true) : SeqAt.shaped (twoD a b) = true := by
  refine shaped_of (n := 2) ?_ ?_ (by decide)
  · simp [twoD, PyData.canLay0, PyData.canLayAll0, h, g]
  · have := strsD_depth a
    have := strsD_depth b
    simp only [twoD, PyData.depth, PyData.depthAll]
    omega
/-! ### cues of a few -/
def zzC : Cue := ("zz1", "start", true, ((1 : Int) : Rat))
theorem zz_ok {cs : List Cue} (h : CuesOk cs) (hz : ∀ c ∈ cs, c.1 ≠ "zz1") : CuesOk (cs.take 1 ++ [zzC]) := by
  have hg : PR.Good ("start" : Str) (cs.take 1) := by
    cases cs with
    | nil => exact .nil
    | cons c l =>
      obtain ⟨h1, h2⟩ := h.good.at (i := 0) (c := c) rfl
      exact PR.Good.snoc (cs := []) .nil h1 h2
  refine ⟨.snoc hg (fun hm => ?_) List.mem_cons_self, fun c hc => ?_, fun c hc => ?_, ?_⟩
  · rcases List.mem_cons.mp hm with e | e
    · exact absurd e (by decide)
    · obtain ⟨c, hc, e⟩ := List.mem_map.mp e
      exact hz c (List.mem_of_mem_take hc) e
  · rcases List.mem_append.mp hc with hc | hc
    · exact h.name c (List.mem_of_mem_take hc)
    · rw [List.mem_singleton] at hc
      subst hc
      decide +kernel
  · rcases List.mem_append.mp hc with hc | hc
    · exact h.size c (List.mem_of_mem_take hc)
    · rw [List.mem_singleton] at hc
      subst hc
      exact ⟨⟨by decide +kernel, by decide +kernel⟩, Nat.le_refl _⟩
  · rw [List.length_append, List.length_singleton, List.length_take]
    omega
theorem perm_ok {cs es : List Cue} (h : CuesOk cs) (hp : es.Perm cs) (hg : PR.Good ("start" : Str) es) : CuesOk es :=
  ⟨hg, fun c hc => h.name c (hp.mem_iff.mp hc), fun c hc => h.size c (hp.mem_iff.mp hc), by rw [hp.length_eq]; exact h.len⟩
section
variable {P : Program} {w : World} {K : PySem.W.Frag} {mg : Str → Option Value} {base : Heap}
def spAlR (K : PySem.W.Frag) : Sp := fun vs H Q _ => ∃ p n s C D cs ds, vs = [.ref p, .ref s, .ref C, .ref D] ∧ BoxAt H p n ∧ n ≤ 6000 ∧ C ≠ p ∧ D ≠ p ∧ ShtOk K H s cs ∧ CsL H C cs ∧ CsL H D ds ∧ CuesOk ds ∧ cs.length ≤ 5 ∧ ds.length ≤ 5 ∧ (∀ c ∈ cs, SmQ c.2.2.2 ∧ c.1 ≠ "zz1") ∧ (∀ c ∈ ds, SmQ c.2.2.2) ∧ ∀ H', SameX p H H' → BoxAt H' p (n + 10) → Q (.bl true) H'
theorem sc_w_alike_right : FnScope ["_law_box_here", "_law_sheet", "_law_cues_here", "_law_more", "_law_some", "_law_other", "_law_found"] ["_law_box_here", "_law_sheet", "_law_cues_here", "_law_more"] (defScope s_w_alike_right) := ⟨rfl, rfl, rfl, by decide +kernel, rfl, by decide +kernel, by decide +kernel⟩
theorem ok_w_alike_right (T : Tx K mg base) : OkG P w K mg base 16 (d_w_alike_right.loc K) ["_law_box_here", "_law_sheet", "_law_cues_here", "_law_more"] (spAlR K) := by
  refine mk_okG (k := 15) T.f_w_alike_right sc_w_alike_right (fun _ _ _ _ _ _ us hl => match us, hl with | [_, _, _, _], _ => rfl) (fun vs H Q E h => ?_) (fun cdv A outer s H vs Q E hgd hr h => ?_)
  · obtain ⟨p, n, s, C, D, cs, ds, rfl, _⟩ := h
    rfl
  · obtain ⟨p, n, s, C, D, cs, ds, rfl, hb, hn, nC, nD, hs, hcs, hds, hdk, hcl, hdl, hcq, hdq, k⟩ := h
    refine ⟨_, (pss_cons (ps_for (passes_of rfl) rfl (pi_list (pe_lst (pa_cons (ok_call (ok_w_mixed T) (hr.mono (by decide)) rfl T.g_w_mixed passL (pa_cons (pv 0) (pa_cons (pv 2) pa_nil))) (pa_cons (ok_call (ok_w_mixed T) (hr.mono (by decide)) rfl T.g_w_mixed passL (pa_cons (pv 0) (pa_cons (pv 3) pa_nil))) (pa_cons (pe_op op_cat (pe_slice sl_list (pv 2) po_none (po_some pe_int)) (pe_lst (pa_cons (pe_tup (pa_cons pe_str (pa_cons pe_str (pa_cons pe_str (pa_cons (pe_tup (pa_cons pe_int (pa_cons pe_int pa_nil))) pa_nil))))) pa_nil))) pa_nil))))) (pg_name (i := 4) sc_w_alike_right.nd rfl (Or.inl rfl)) (pss_cons (ps_set (i := 5) sc_w_alike_right.nd rfl (Or.inl rfl) (ok_make T.mkr_Sheet (ok_Sheet_init_ T) (hr.mono (by decide)) rfl T.g_Sheet (passE rfl rfl rfl rfl) (pa_cons (ok_call (ok_w_passed T) (hr.mono (by decide)) rfl T.g_w_passed passL (pa_cons (pv 4) pa_nil)) pa_nil)))
      (pss_cons (ps_set (i := 6) sc_w_alike_right.nd rfl (Or.inl rfl) (pe_lst (pa_cons (ok_call (ok_unlike T) (hr.mono (by decide)) rfl T.g_unlike (passE rfl rfl rfl rfl) (pa_cons (pv 1) (pa_cons (pv 5) pa_nil))) (pa_cons (ok_call (ok_unlike T) (hr.mono (by decide)) rfl T.g_unlike (passE rfl rfl rfl rfl) (pa_cons (pv 5) (pa_cons (pv 1) pa_nil))) pa_nil))))
      (pss_cons (ps_if (pt_cmpR (op_neD hr.units) (pv 6) (pe_lst (pa_cons (ok_call (ok_w_unlike T) (hr.mono (by decide)) rfl T.g_w_unlike passL (pa_cons (pv 2) (pa_cons (pv 4) pa_nil))) (pa_cons (ok_call (ok_w_unlike T) (hr.mono (by decide)) rfl T.g_w_unlike passL (pa_cons (pv 4) (pa_cons (pv 2) pa_nil))) pa_nil))) (nomark _)) (pss_one (ps_ret pe_bl)) pss_nil)
      (pss_one (ps_if (PW.pt (pw_or (pt_cmpR op_ne (pe_callB (call_repr hgd hr T.sys) (by rfl) T.b_repr (by decide +kernel) (pa_cons (ok_call (ok_is_alike T) (hr.mono (by decide)) rfl T.g_is_alike (passE rfl rfl rfl rfl) (pa_cons (pv 1) (pa_cons (pv 5) pa_nil))) pa_nil)) (pe_callB (call_repr hgd hr T.sys) (by rfl) T.b_repr (by decide +kernel) (pa_cons (pe_cmpR (show OpR _ _ (rEqE K) from op_eqE hr.units) (pe_ix ix_list (pv 6) pe_int (fun _ _ => rfl)) (pe_lst pa_nil) (nomark _)) pa_nil)) (nomark _)) (pw_or1 (pt_cmpR op_ne (pe_cmpR (op_eqO T.eq_Sheet (ok_Sheet_eq_ T) (hr.mono (by decide)) passL) (pv 1) (pv 5) (nomark _)) (pe_cmpR (op_eqD hr.units) (pv 4) (pv 2) (nomark _)) (nomark _))))) (pss_one (ps_ret pe_bl)) pss_nil))))))
      (pss_one (ps_ret pe_bl))), ?_⟩
    have hsz : sizeLine = 16777216 := sizeLine_eq
    have z2 : 2 ≤ sizeLine := by omega
    have hok := hs.2.1
    refine ⟨_, rfl, _, rfl, p, n, C, cs, rfl, hb, (by omega), nC, hcs, hok, fun F1 es1 H1 x1 b1 nF1 gF1 hF1 pe1 g1 => ?_⟩
    refine ⟨_, rfl, _, rfl, p, _, D, ds, rfl, b1, (by omega), nD, hds.upX hb x1 nD, hdk, fun F2 es2 H2 x2 b2 nF2 gF2 hF2 pe2 g2 => ?_⟩
    have x02 := x1.trans x2
    obtain ⟨xs, hC2, hx2⟩ := id (hcs.upX hb x02 nC)
    have hxl := hx2.length
    refine ⟨_, rfl, _, rfl, C, xs, rfl, SqL.of hC2, fun SL gSL => ?_⟩
    rw [show (1 : Int) = ((1 : Nat) : Int) from rfl, cut_to]
    have sS := AT.Same.up (o := .lst (xs.take 1)) gSL
    refine ⟨z2, fun tq gtq => ⟨(by show 4 ≤ sizeLine; omega), fun tz gtz => ⟨(by show 1 ≤ sizeLine; omega), fun L1 gL1 => ?_⟩⟩⟩
    have sQ := AT.Same.up (o := .tup [.int 1, .int 1]) gtq
    have sZ := AT.Same.up (o := .tup [.str "zz1", .str "start", .str "beats", .ref tq]) gtz
    have sL1 := AT.Same.up (o := .lst [.ref tz]) gL1
    have sSL := (sQ.trans sZ).trans sL1
    refine ⟨SL, L1, _, _, rfl, rfl, sSL _ _ upd_same, upd_same, (by rw [List.length_take, List.length_singleton]; omega), fun F3 gF3 => ⟨(by show 3 ≤ sizeLine; omega), fun L gL => ?_⟩⟩
    have s3 := AT.Same.up (o := .lst (xs.take 1 ++ [.ref tz])) gF3
    have sL := AT.Same.up (o := .lst [.ref F1, .ref F2, .ref F3]) gL
    have s24 := ((sS.trans sSL).trans s3).trans sL
    have b4 := b2.up s24
    have x04 := x02.trans (sameX_of (p := p) s24)
    have hitems : ∀ (j : Nat) x, [V.ref F1, .ref F2, .ref F3][j]? = some x → ∃ F es, x = .ref F ∧ CsL (upd (upd (upd (upd (upd (upd H2 SL (.lst (xs.take 1))) tq (.tup [.int 1, .int 1])) tz (.tup [.str "zz1", .str "start", .str "beats", .ref tq])) L1 (.lst [.ref tz])) F3 (.lst (xs.take 1 ++ [.ref tz]))) L (.lst [.ref F1, .ref F2, .ref F3])) F es ∧ CuesOk es ∧ es.length ≤ 6 ∧ ∀ c ∈ es, SmQ c.2.2.2 := fun j x hj => by
      match j, hj with
      | 0, hj =>
        cases hj
        exact ⟨F1, es1, rfl, (hF1.upX b1 x2 nF1).up s24, perm_ok hok pe1 g1, by rw [pe1.length_eq]; omega, fun c hc => (hcq c (pe1.mem_iff.mp hc)).1⟩
      | 1, hj =>
        cases hj
        exact ⟨F2, es2, rfl, hF2.up s24, perm_ok hdk pe2 g2, by rw [pe2.length_eq]; omega, fun c hc => hdq c (pe2.mem_iff.mp hc)⟩
      | 2, hj =>
        cases hj
        refine ⟨F3, cs.take 1 ++ [zzC], rfl, ⟨_, sL _ _ upd_same, ?_⟩, zz_ok hok fun c hc => (hcq c hc).2, by rw [List.length_append, List.length_singleton, List.length_take]; omega, fun c hc => ?_⟩
        · refine prd_app (Paired.mapP (prd_take hx2 1) fun _ _ z => z.up (TT.of s24)) (.cons ⟨tz, tq, rfl, ?_, ?_⟩ .nil)
          · exact ((sL1.trans s3).trans sL) _ _ upd_same
          · exact (((sZ.trans sL1).trans s3).trans sL) _ _ upd_same
        · rcases List.mem_append.mp hc with hc | hc
          · exact (hcq c (List.mem_of_mem_take hc)).1
          · rw [List.mem_singleton] at hc
            subst hc
            exact ⟨⟨by decide +kernel, by decide +kernel⟩, by decide +kernel⟩
      | j + 3, hj => simp at hj
    have hL : upd (upd (upd (upd (upd (upd H2 SL (.lst (xs.take 1))) tq (.tup [.int 1, .int 1])) tz (.tup [.str "zz1", .str "start", .str "beats", .ref tq])) L1 (.lst [.ref tz])) F3 (.lst (xs.take 1 ++ [.ref tz]))) L (.lst [.ref F1, .ref F2, .ref F3]) L = some (.lst [.ref F1, .ref F2, .ref F3]) := upd_same
    have hs4 := hs.upX hb x04
    have hcs4 := hcs.upX hb x04 nC
    generalize upd (upd (upd (upd (upd (upd H2 SL (.lst (xs.take 1))) tq (.tup [.int 1, .int 1])) tz (.tup [.str "zz1", .str "start", .str "beats", .ref tq])) L1 (.lst [.ref tz])) F3 (.lst (xs.take 1 ++ [.ref tz]))) L (.lst [.ref F1, .ref F2, .ref F3]) = H4 at hitems hL hs4 hcs4 b4 x04 ⊢
    refine ⟨L, rfl, ⟨_, SqL.of hL⟩, for_list (xs := [.ref F1, .ref F2, .ref F3]) (fun j σ' Hj => (∃ o4 o5 o6, σ' = ([some (.ref p), some (.ref s), some (.ref C), some (.ref D), o4, o5, o6] : L2.St)) ∧ Same H4 Hj) ⟨⟨_, _, _, rfl⟩, Same.refl _⟩ (fun j σ' Hj _ hP => SqL.of (hP.2 _ _ hL)) (fun j x σ' Hj hxj hP => ?_) (fun σ' Hj hP => ?_)⟩
    · obtain ⟨⟨o4, o5, o6, rfl⟩, sj⟩ := hP
      obtain ⟨F, es, rfl, hF0, hek, hel, heq⟩ := hitems j x hxj
      have hF := hF0.up sj
      have hsj := hs4.up sj
      have hcsj := hcs4.up sj
      refine ⟨_, rfl, F, es, rfl, hF, (by omega), fun c hc => (heq c hc).b.mono (by decide), fun Ps ys H5 s5 gP hP hy => ?_⟩
      refine mk_sheetR (shIn_of hP hy (fun c hc => ⟨hek.name c hc, hek.size c hc⟩) (by omega) (.inr ⟨hek.good, .inr ⟨?_, fun q H6 s6 gq hq => ?_⟩⟩))
      · have := PR.mom_le ("start" : Str) es
        exact Nat.le_trans this (by omega)
      have hmom : (momS es).length ≤ 8 := Nat.le_trans (PR.mom_le ("start" : Str) es) (by omega)
      have hq : ShtOk K H6 q es := ⟨hq, hek, hmom⟩
      have s56 := s5.trans s6
      have hs6 := hsj.up s56
      have hcs6 := hcsj.up s56
      have hF6 := hF.up s56
      refine ⟨_, rfl, _, rfl, _, _, rfl, .inr ⟨s, cs, rfl, hs6, .inr ⟨q, es, rfl, hq, fun U1 H7 s7 gU1 hU1 => ?_⟩⟩⟩
      refine ⟨_, rfl, _, rfl, _, _, rfl, .inr ⟨q, es, rfl, hq.up s7, .inr ⟨s, cs, rfl, hs6.up s7, fun U2 H8 s8 gU2 hU2 => ⟨z2, fun M gM => ?_⟩⟩⟩⟩
      have sM := AT.Same.up (o := .lst [.ref U1, .ref U2]) gM
      have s69 := (s7.trans s8).trans sM
      have hU1M := (s8.trans sM) _ _ hU1
      have hU2M := sM _ _ hU2
      have hM : upd H8 M (.lst [.ref U1, .ref U2]) M = some (.lst [.ref U1, .ref U2]) := upd_same
      have hs9 := hs6.up s69
      have hq9 := hq.up s69
      have hcs9 := hcs6.up s69
      have hF9 := hF6.up s69
      generalize upd H8 M (.lst [.ref U1, .ref U2]) = H9 at sM s69 hU1M hU2M hM hs9 hq9 hcs9 hF9 ⊢
      refine ⟨_, rfl, _, rfl, _, rfl, C, F, cs, es, rfl, hcs9, hF9, hok, hek, fun U3 H10 s10 gU3 hU3 => ?_⟩
      refine ⟨_, rfl, _, rfl, F, C, es, cs, rfl, hF9.up s10, hcs9.up s10, hek, hok, fun U4 H11 s11 gU4 hU4 => ⟨z2, fun N gN => ?_⟩⟩
      have sN := AT.Same.up (o := .lst [.ref U3, .ref U4]) gN
      have s9N := (s10.trans s11).trans sN
      refine ⟨twoD (unlS cs es) (unlS es cs), twoD (unlS cs es) (unlS es cs), ?_, ?_, twoD_shaped (unl_lay hok hek) (unl_lay hek hok), twoD_shaped (unl_lay hok hek) (unl_lay hek hok), _, rfl, ?_⟩
      · exact .lst (SqL.of (s9N _ _ hM)) (.cons (.lst (SqL.of (s9N _ _ hU1M)) (dp_strs _)) (.cons (.lst (SqL.of (s9N _ _ hU2M)) (dp_strs _)) .nil))
      · exact .lst (SqL.of upd_same) (.cons (.lst (SqL.of ((s11.trans sN) _ _ hU3)) (dp_strs _)) (.cons (.lst (SqL.of (sN _ _ hU4)) (dp_strs _)) .nil))
      rw [twoD_eqv]
      refine iteF ?_
      have hU1N := s9N _ _ hU1M
      have hMN := s9N _ _ hM
      have hsN := hs9.up s9N
      have hqN := hq9.up s9N
      have hcsN := hcs9.up s9N
      have hFN := hF9.up s9N
      have sjN := (sj.trans s56).trans (s69.trans s9N)
      generalize upd H11 N (.lst [.ref U3, .ref U4]) = H12 at sN s9N hU1N hMN hsN hqN hcsN hFN sjN ⊢
      obtain ⟨w1, w2, w3⟩ := shw_bl_ok (unlS cs es).isEmpty
      refine ⟨_, rfl, _, rfl, s, cs, q, es, rfl, hsN, hqN, fun H13 s13 => ⟨.bl (unlS cs es).isEmpty, .bool (unlS cs es).isEmpty, rfl, .bl _, w1, w2, w3, ?_⟩⟩
      refine ⟨_, rfl, M, _, 0, _, rfl, rfl, SqL.of (s13 _ _ hMN), rfl, Nat.zero_le _, fun e ge => ?_⟩
      have se := AT.Same.up (o := .lst []) ge
      refine ⟨(unlS cs es).map V.str, ⟨U1, e, rfl, rfl, SqL.of (se _ _ (s13 _ _ hU1N)), SqL.of upd_same⟩, ?_⟩
      have ee : ((unlS cs es).map V.str).isEmpty = (unlS cs es).isEmpty := by cases unlS cs es <;> rfl
      rw [ee]
      refine ⟨.bl (unlS cs es).isEmpty, .bool (unlS cs es).isEmpty, rfl, .bl _, w1, w2, w3, rfl, _, rfl, ?_⟩
      rw [decide_eq_true rfl]
      refine iteF ?_
      have s1e := s13.trans se
      have hsE := hsN.up s1e
      have hqE := hqN.up s1e
      obtain ⟨dxs, fss, lms, mss, hss1, _⟩ := hsE.at
      refine ⟨_, rfl, _, rfl, s, dxs, fss, rfl, hss1, hqE.ofTy T, s, q, cs, es, rfl, hsE, hqE, fun H14 s14 => ⟨_, rfl, _, rfl, cuesD es, cuesD cs, (hFN.up (s1e.trans s14)).dp, (hcsN.up (s1e.trans s14)).dp, cuesD_shaped hek.strs, cuesD_shaped hok.strs, ?_⟩⟩
      rw [cuesD_eqv]
      refine ⟨rfl, _, rfl, ?_⟩
      have ed : decide (cs = es) = decide (es = cs) := by rw [Bool.eq_iff_iff]; simp only [decide_eq_true_eq]; exact ⟨Eq.symm, Eq.symm⟩
      rw [ed, decide_eq_true rfl]
      exact iteF ⟨⟨_, _, _, rfl⟩, sjN.trans (s1e.trans s14)⟩
    · obtain ⟨⟨o4, o5, o6, rfl⟩, sj⟩ := hP
      have pl1 := pe1.length_eq
      have pl2 := pe2.length_eq
      exact k Hj (x04.trans (sameX_of sj)) ((b4.up sj).mono (by omega))
end
end K34

set_option maxHeartbeats 4000000
namespace K34
open PySem PySem.Spec PyProof.Rows L2 AT
theorem eq_selfA (v : V) (h : (∃ a, v = .ref a) ∨ flatV v = true) : EqPair v v true := by
  rcases h with ⟨a, rfl⟩ | h
  · exact .inl ⟨a, rfl, rfl, rfl⟩
  · refine .inr ⟨h, h, ?_⟩
    cases v <;> first | (simp [eqV]; done) | (simp [flatV] at h; done)
theorem any_okA {K : PySem.W.Frag} {H : Hp} {v : V} (h : AnyV K H v) : (∃ a, v = .ref a) ∨ flatV v = true := by
  cases h <;> first | exact .inl ⟨_, rfl⟩ | exact .inr rfl
theorem alike_self {K : PySem.W.Frag} {H : Hp} {a b : Addr} {r : List V} (ha : H a = some (.lst r)) (hb : H b = some (.lst r)) (h : ∀ v ∈ r, (∃ a, v = .ref a) ∨ flatV v = true) : AlikeL K (.ref a) (.ref b) H (fun _ => true) r.length :=
  ⟨a, b, r, r, rfl, rfl, SqL.of ha, SqL.of hb, rfl, rfl, fun i x y e1 e2 => by
    rw [e1] at e2
    cases e2
    exact eq_selfA x (h x (List.mem_of_getElem? e1))⟩
theorem shw_str5 {z : Str} (h : ∀ c ∈ z.cps.toList, c < 1114112) (hl : z.length ≤ 9) : Shw (.str z) 3 100 := (Shw.str (L := 9) h hl).mono (by decide) (by decide)
theorem shw_nonA : Shw .none 3 100 := ⟨by simp [PyData.showable], by simp [PyData.depth], by rw [PyData.shown_none]; decide +kernel⟩
theorem shw_empA : Shw (.dict []) 3 100 := ⟨by simp [PyData.showable, PyData.showableKv], by simp [PyData.depth, PyData.depthKv], by rw [PyData.shown_dict, PyData.shownKv_nil]; decide +kernel⟩
section
variable {P : Program} {w : World} {K : PySem.W.Frag} {mg : Str → Option Value} {base : Heap}
/-- the six things -/
def Six (H : Hp) (v : V) : Prop := v = .non ∨ v = .bl true ∨ v = .int 0 ∨ v = .str "zz9zz" ∨ (∃ a, v = .ref a ∧ H a = some (.lst [.str "start"])) ∨ ∃ a, v = .ref a ∧ H a = some (.dK [])
theorem Six.up {H H' : Hp} {v : V} (h : Six H v) (s : Same H H') : Six H' v := by
  rcases h with h | h | h | h | ⟨a, h, e⟩ | ⟨a, h, e⟩
  · exact .inl h
  · exact .inr (.inl h)
  · exact .inr (.inr (.inl h))
  · exact .inr (.inr (.inr (.inl h)))
  · exact .inr (.inr (.inr (.inr (.inl ⟨a, h, s _ _ e⟩))))
  · exact .inr (.inr (.inr (.inr (.inr ⟨a, h, s _ _ e⟩))))
theorem Six.any {H : Hp} {v : V} (h : Six H v) : AnyV K H v := by
  rcases h with rfl | rfl | rfl | rfl | ⟨a, rfl, e⟩ | ⟨a, rfl, e⟩
  · exact .non
  · exact .bl _
  · exact .int _
  · exact .str _
  · exact .lst e
  · exact .dct e
theorem Six.nos {H : Hp} {v : V} (h : Six H v) : NoS K H v := by
  rcases h with rfl | rfl | rfl | rfl | ⟨a, rfl, e⟩ | ⟨a, rfl, e⟩
  · exact noS_non
  · exact noS_bl _
  · exact noS_int _
  · exact noS_str _
  · exact ⟨.lst e, fun b _ _ _ e1 z => by cases e1; rw [e] at z; cases z⟩
  · exact noS_dk e
theorem Six.cue {H : Hp} {v : V} {cs : List Cue} (h : Six H v) (hz : ∀ c ∈ cs, c.1 ≠ "zz9zz") : inSh cs v = false := by
  rcases h with rfl | rfl | rfl | rfl | ⟨a, rfl, e⟩ | ⟨a, rfl, e⟩ <;> try rfl
  rw [inSh_str]
  refine decide_eq_false fun hm => ?_
  rcases List.mem_cons.mp hm with e | e
  · exact absurd e (by decide)
  · obtain ⟨c, hc, e⟩ := List.mem_map.mp e
    exact hz c hc e
theorem Six.unit {H : Hp} {v : V} (h : Six H v) : unitV v = false := by
  rcases h with rfl | rfl | rfl | rfl | ⟨a, rfl, e⟩ | ⟨a, rfl, e⟩ <;> try rfl
theorem Six.amt {H : Hp} {v : V} (h : Six H v) : (wholeV v = false ∧ ¬ isA K H v) ∨ ∃ q, Qv K H v q ∧ q ≤ 0 := by
  rcases h with rfl | rfl | rfl | rfl | ⟨a, rfl, e⟩ | ⟨a, rfl, e⟩
  · exact .inl ⟨rfl, fun ⟨q, z⟩ => nomatch z⟩
  · exact .inl ⟨rfl, fun ⟨q, z⟩ => nomatch z⟩
  · exact .inr ⟨_, .int 0, by decide⟩
  · exact .inl ⟨rfl, fun ⟨q, z⟩ => nomatch z⟩
  · exact .inl ⟨rfl, fun ⟨q, z⟩ => by cases z with | obj z => obtain ⟨d, z⟩ := z; rw [e] at z; cases z⟩
  · exact .inl ⟨rfl, fun ⟨q, z⟩ => by cases z with | obj z => obtain ⟨d, z⟩ := z; rw [e] at z; cases z⟩
theorem Six.dat {H : Hp} {v : V} (h : Six H v) : ∃ d, Dd K H v d ∧ Shw d 3 100 := by
  rcases h with rfl | rfl | rfl | rfl | ⟨a, rfl, e⟩ | ⟨a, rfl, e⟩
  · exact ⟨_, .non, shw_nonA⟩
  · exact ⟨_, .bl _, (Shw.bl _).mono (by decide) (by decide)⟩
  · exact ⟨_, .int _, (Shw.int (by decide)).mono (by decide) (by decide)⟩
  · exact ⟨_, .str _, shw_str5 (by decide +kernel) (by decide +kernel)⟩
  · refine ⟨.list [.str "start"], .lst (SqL.of e) (.cons (.str _) .nil), ?_⟩
    refine (Shw.list (n := 0) (L := 92) fun d hd => ?_).mono (by decide) (by decide)
    rw [List.mem_singleton] at hd
    subst hd
    exact Shw.str (L := 9) (by decide +kernel) (by decide +kernel)
  · exact ⟨_, .emp e, shw_empA⟩
theorem Six.ne {H : Hp} {v : V} (h : Six H v) : (v = .str "zz9zz") ∨ (nameV v = false ∧ (∀ z, v = .str z → z.length ≤ 1000) ∧ ((∃ d, Dp K H v d ∧ SeqAt.shaped d = true ∧ PyData.eqv d (.str "zz9zz") = false) ∨ ∃ a, v = .ref a ∧ H a = some (.dK []))) := by
  rcases h with rfl | rfl | rfl | rfl | ⟨a, rfl, e⟩ | ⟨a, rfl, e⟩
  · exact .inr ⟨rfl, nofun, .inl ⟨_, .non, rfl, by simp [PyData.eqv]⟩⟩
  · exact .inr ⟨rfl, nofun, .inl ⟨_, .bl _, rfl, by simp [PyData.eqv]⟩⟩
  · exact .inr ⟨rfl, nofun, .inl ⟨_, .int _, rfl, by simp [PyData.eqv]⟩⟩
  · exact .inl rfl
  · refine .inr ⟨rfl, nofun, .inl ⟨.list [.str "start"], .lst (SqL.of e) (.cons (.str _) .nil), ?_, by simp [PyData.eqv]⟩⟩
    refine shaped_of (n := 1) ?_ ?_ (by decide)
    · simp only [PyData.canLay0, PyData.canLayAll0]
      decide +kernel
    · simp [PyData.depth, PyData.depthAll]
  · exact .inr ⟨rfl, nofun, .inr ⟨a, rfl, e⟩⟩
/-- a mark and a thing, shown -/
theorem shw_out {tag : Str} {d : PyData} (h : Shw d 3 100) (ht : ∀ c ∈ tag.cps.toList, c < 1114112) (hl : tag.length ≤ 9) : Shw (.list [.str tag, d]) 4 206 := by
  refine Shw.list (ds := [.str tag, d]) (n := 3) (L := 100) fun x hx => ?_
  simp only [List.mem_cons, List.not_mem_nil, or_false] at hx
  rcases hx with rfl | rfl
  · exact shw_str5 ht hl
  · exact h
theorem shw_outs {ds : List PyData} (h : ∀ d ∈ ds, Shw d 4 206) (hl : ds.length ≤ 4) : (PyData.list ds).showable = true ∧ (PyData.list ds).depth ≤ 50 ∧ (PyData.list ds).shown.length ≤ sizeLine :=
  ((Shw.list h).mono (m := 50) (M := 1000) (by decide) (by omega)).ok (by decide) (by decide)
def spOdR (K : PySem.W.Frag) : Sp := fun vs H Q _ => ∃ s cs, vs = [.ref s] ∧ ShtOk K H s cs ∧ (∀ c ∈ cs, c.1 ≠ "zz9zz") ∧ ∀ H', Same H H' → Q (.bl true) H'
theorem sc_w_odd_right : FnScope ["_law_sheet", "_law_thing", "_law_way", "_law_found"] ["_law_sheet"] (defScope s_w_odd_right) := ⟨rfl, rfl, rfl, by decide +kernel, rfl, by decide +kernel, by decide +kernel⟩
theorem ok_w_odd_right (T : Tx K mg base) : OkG P w K mg base 17 (d_w_odd_right.loc K) ["_law_sheet"] (spOdR K) := by
  refine mk_okG (k := 16) T.f_w_odd_right sc_w_odd_right (fun _ _ _ _ _ _ us hl => match us, hl with | [_], _ => rfl) (fun vs H Q E h => ?_) (fun cdv A outer s H vs Q E hgd hr h => ?_)
  · obtain ⟨s, cs, rfl, _⟩ := h
    rfl
  · obtain ⟨s, cs, rfl, hs, hzz, k⟩ := h
    refine ⟨_, (pss_cons (ps_for (passes_of rfl) rfl (pi_list (pe_lst (pa_cons pe_non (pa_cons pe_bl (pa_cons pe_int (pa_cons pe_str (pa_cons (pe_lst (pa_cons pe_str pa_nil)) (pa_cons pe_dnewK pa_nil)))))))) (pg_name (i := 1) sc_w_odd_right.nd rfl (Or.inr rfl)) (pss_cons (ps_if (pt_cmpR op_ne (pe_callB (call_repr hgd hr T.sys) (by rfl) T.b_repr (by decide +kernel) (pa_cons (pe_lc (own := [("_law_way", 2)]) (g := (gName 2)) (tt := tYes) (by rfl) sc_w_odd_right.nd (pi_range1 (by rfl) T.b_range (pa_cons pe_int pa_nil)) (blkOk_by (own := [("_law_way", 2)]) (N := ["_law_sheet", "_law_thing", "_law_way", "_law_found"]) (sc := defScope s_w_odd_right) (by decide +kernel)) (fun _ _ _ _ _ => (pg_name (i := 2) sc_w_odd_right.nd rfl (Or.inl rfl))) (fun _ _ _ _ _ => pts_nil) (fun _ _ _ _ _ => (ok_call (ok_w_told T) (hr.mono (by decide)) rfl T.g_w_told passL (pa_cons (pv 2) (pa_cons (pe_op op_rep (pe_lst (pa_cons (pv 1) pa_nil)) pe_int) pa_nil))))) pa_nil)) (pe_callB (call_repr hgd hr T.sys) (by rfl) T.b_repr (by decide +kernel) (pa_cons (pe_op op_rep (pe_lst (pa_cons (pe_lst (pa_cons pe_str (pa_cons (pv 1) pa_nil))) pa_nil)) pe_int) pa_nil)) (nomark _)) (pss_one (ps_ret pe_bl)) pss_nil)
      (pss_cons (ps_set (i := 3) sc_w_odd_right.nd rfl (Or.inl rfl) (pe_lst (pa_cons (ok_call (ok_w_told T) (hr.mono (by decide)) rfl T.g_w_told passL (pa_cons pe_int (pa_cons (pe_lst (pa_cons (pv 0) (pa_cons (pv 1) (pa_cons (pv 1) (pa_cons (pv 1) pa_nil))))) pa_nil))) (pa_cons (ok_call (ok_w_told T) (hr.mono (by decide)) rfl T.g_w_told passL (pa_cons pe_int (pa_cons (pe_lst (pa_cons (pv 0) (pa_cons (pv 0) (pa_cons (pv 1) (pa_cons (pv 1) pa_nil))))) pa_nil))) pa_nil))))
      (pss_cons (ps_if (pt_cmpR op_ne (pe_callB (call_repr hgd hr T.sys) (by rfl) T.b_repr (by decide +kernel) (pa_cons (pv 3) pa_nil)) (pe_callB (call_repr hgd hr T.sys) (by rfl) T.b_repr (by decide +kernel) (pa_cons (pe_lst (pa_cons (pe_lst (pa_cons pe_str (pa_cons (pv 1) pa_nil))) (pa_cons (pe_lst (pa_cons pe_str (pa_cons (pv 1) pa_nil))) pa_nil))) pa_nil)) (nomark _)) (pss_one (ps_ret pe_bl)) pss_nil)
      (pss_cons (ps_set (i := 3) sc_w_odd_right.nd rfl (Or.inl rfl) (pe_lst (pa_cons (ok_call (ok_w_told T) (hr.mono (by decide)) rfl T.g_w_told passL (pa_cons pe_int (pa_cons (pe_lst (pa_cons (pv 0) (pa_cons (pv 1) (pa_cons (pv 1) (pa_cons pe_non pa_nil))))) pa_nil))) (pa_cons (ok_call (ok_w_told T) (hr.mono (by decide)) rfl T.g_w_told passL (pa_cons pe_int (pa_cons (pe_lst (pa_cons (pv 0) (pa_cons pe_str (pa_cons (pv 1) (pa_cons pe_non pa_nil))))) pa_nil))) pa_nil))))
      (pss_cons (ps_if (pt_cmpR op_ne (pe_callB (call_repr hgd hr T.sys) (by rfl) T.b_repr (by decide +kernel) (pa_cons (pv 3) pa_nil)) (pe_callB (call_repr hgd hr T.sys) (by rfl) T.b_repr (by decide +kernel) (pa_cons (pe_lst (pa_cons (pe_lst (pa_cons pe_str (pa_cons (pv 1) pa_nil))) (pa_cons (pe_lst (pa_cons pe_str (pa_cons (pv 1) pa_nil))) pa_nil))) pa_nil)) (nomark _)) (pss_one (ps_ret pe_bl)) pss_nil)
      (pss_one (ps_if (PW.pt (pw_and (pt_cmpR (op_neZ hr.units) (pv 1) pe_str (nomark _)) (pw_and1 (pt_cmpR (show OpR _ _ (rNeI K) from op_neI hr.units) (ok_call (ok_w_told T) (hr.mono (by decide)) rfl T.g_w_told passL (pa_cons pe_int (pa_cons (pe_lst (pa_cons (pv 0) (pa_cons (pv 0) (pa_cons pe_str (pa_cons (pv 1) pa_nil))))) pa_nil))) (pe_lst (pa_cons pe_str (pa_cons (pv 1) pa_nil))) (nomark _))))) (pss_one (ps_ret pe_bl)) pss_nil))))))))
      (pss_one (ps_ret (pe_cmpR (show OpR _ _ (rEqI K) from op_eqI hr.units) (ok_call (ok_w_told T) (hr.mono (by decide)) rfl T.g_w_told passL (pa_cons pe_int (pa_cons (pe_lst (pa_cons (pv 0) (pa_cons pe_str (pa_cons (pe_op op_sub pe_int pe_int) (pa_cons pe_non pa_nil))))) pa_nil))) (pe_lst (pa_cons pe_str (pa_cons (pe_op op_sub pe_int pe_int) pa_nil))) (nomark _))))), ?_⟩
    have hsz : sizeLine = 16777216 := sizeLine_eq
    have z1 : 1 ≤ sizeLine := by omega
    have z2 : 2 ≤ sizeLine := by omega
    have z4 : 4 ≤ sizeLine := by omega
    refine ⟨z1, fun A gA => fun B gB => ⟨(by show 6 ≤ sizeLine; omega), fun L gL => ?_⟩⟩
    have sA := AT.Same.up (o := .lst [.str "start"]) gA
    have sB := AT.Same.up (o := .dK []) gB
    have sL := AT.Same.up (o := .lst [.non, .bl true, .int 0, .str "zz9zz", .ref A, .ref B]) gL
    have s0 := (sA.trans sB).trans sL
    have hL : upd (upd (upd H A (.lst [.str "start"])) B (.dK [])) L (.lst [.non, .bl true, .int 0, .str "zz9zz", .ref A, .ref B]) L = some (.lst [.non, .bl true, .int 0, .str "zz9zz", .ref A, .ref B]) := upd_same
    have hB := sL _ _ (upd_same (H := upd H A (.lst [.str "start"])) (a := B) (o := .dK []))
    have hA := (sB.trans sL) _ _ (upd_same (H := H) (a := A) (o := .lst [.str "start"]))
    have hs0 := hs.up s0
    generalize upd (upd (upd H A (.lst [.str "start"])) B (.dK [])) L (.lst [.non, .bl true, .int 0, .str "zz9zz", .ref A, .ref B]) = H0 at s0 hL hA hB hs0 ⊢
    have six : ∀ (j : Nat) x, [V.non, .bl true, .int 0, .str "zz9zz", .ref A, .ref B][j]? = some x → Six H0 x := fun j x hj => by
      have hm := List.mem_of_getElem? hj
      simp only [List.mem_cons, List.not_mem_nil, or_false] at hm
      rcases hm with rfl | rfl | rfl | rfl | rfl | rfl
      · exact .inl rfl
      · exact .inr (.inl rfl)
      · exact .inr (.inr (.inl rfl))
      · exact .inr (.inr (.inr (.inl rfl)))
      · exact .inr (.inr (.inr (.inr (.inl ⟨A, rfl, hA⟩))))
      · exact .inr (.inr (.inr (.inr (.inr ⟨B, rfl, hB⟩))))
    refine ⟨L, rfl, ⟨_, SqL.of hL⟩, for_list (xs := [.non, .bl true, .int 0, .str "zz9zz", .ref A, .ref B]) (fun j σ' Hj => (∃ o1 o3, σ' = ([some (.ref s), o1, none, o3] : L2.St)) ∧ Same H0 Hj) ⟨⟨_, _, rfl⟩, Same.refl _⟩ (fun j σ' Hj _ hP => SqL.of (hP.2 _ _ hL)) (fun j x σ' Hj hxj hP => ?_) (fun σ' Hj hP => ?_)⟩
    · obtain ⟨⟨o1, o3, rfl⟩, sj⟩ := hP
      have hx := (six j x hxj).up sj
      have hsj := hs0.up sj
      obtain ⟨d, hd, hw⟩ := hx.dat (K := K)
      have outs : ∀ {H' : Hp} {q : Addr} {tag : Str}, Same Hj H' → H' q = some (.lst [.str tag, x]) → Dd K H' (.ref q) (.list [.str tag, d]) := fun s1 e => .lst (SqL.of e) (.cons (.str _) (.cons (Dd.up s1 hd) .nil))
      have hShT := shw_out (tag := "sheet") hw (by decide +kernel) (by decide +kernel)
      have hCuT := shw_out (tag := "cue") hw (by decide +kernel) (by decide +kernel)
      have hUnT := shw_out (tag := "unit") hw (by decide +kernel) (by decide +kernel)
      have hAmT := shw_out (tag := "amount") hw (by decide +kernel) (by decide +kernel)
      refine ⟨4, rfl, by decide, by decide, fun F gF => ?_⟩
      refine lc_it (walk_range (lo := 0) (n := 4)) (fun i Hi => Same Hj Hi ∧ ∃ ys, Hi F = some (.lst ys) ∧ ys.length = i ∧ ∀ y ∈ ys, ∃ q, y = .ref q ∧ Hi q = some (.lst [.str "sheet", x])) ⟨AT.Same.up gF, [], upd_same, rfl, by simp⟩ (fun _ _ _ _ => trivial) (fun i y Hi H' hi hP hY => ?_) (fun Hi hP => ?_)
      · obtain ⟨si, ys, hF, hyl, hys⟩ := hP
        obtain ⟨rfl, rfl⟩ := hY
        refine ⟨rfl, ?_⟩
        dsimp only [tYes]
        refine iteT ⟨_, rfl, _, rfl, z1, fun M1 gM1 => ⟨M1, 4, [x], rfl, rfl, upd_same, by decide, by decide, (by show 1 * 4 ≤ sizeLine; omega), fun M gM => ?_⟩⟩
        have e4 : (List.replicate (Int.toNat 4) [x]).flatten = [x, x, x, x] := rfl
        rw [e4]
        have sM := (AT.Same.up (o := .lst [x]) gM1).trans (AT.Same.up (o := .lst [x, x, x, x]) gM)
        have hxM := hx.up (si.trans sM)
        have fin : ∀ q H2, Same (upd (upd H' M1 (.lst [x])) M (.lst [x, x, x, x])) H2 → upd (upd H' M1 (.lst [x])) M (.lst [x, x, x, x]) q = none → H2 q = some (.lst [.str "sheet", x]) → ∃ acc, H2 F = some (.lst acc) ∧ acc.length < sizeLine ∧ (Same Hj (upd H2 F (.lst (acc ++ [.ref q]))) ∧ ∃ ys, upd H2 F (.lst (acc ++ [.ref q])) F = some (.lst ys) ∧ ys.length = i + 1 ∧ ∀ y ∈ ys, ∃ q', y = .ref q' ∧ upd H2 F (.lst (acc ++ [.ref q])) q' = some (.lst [.str "sheet", x])) := fun q H2 s2 gq hq => by
          have hF2 := s2 _ _ (sM _ _ hF)
          have nq : q ≠ F := by rintro rfl; rw [sM _ _ hF] at gq; cases gq
          refine ⟨ys, hF2, by omega, AT.Same.new ((si.trans sM).trans s2) gF, _, upd_same, by rw [List.length_append, hyl]; rfl, fun y hy => ?_⟩
          rcases List.mem_append.mp hy with hy | hy
          · obtain ⟨q', rfl, hq'⟩ := hys y hy
            refine ⟨q', rfl, ?_⟩
            have nF : q' ≠ F := by
              rintro rfl
              rw [hF] at hq'
              cases hq'
              obtain ⟨z, ez, _⟩ := hys (.str "sheet") (by simp)
              cases ez
            rw [upd_ne nF]
            exact s2 _ _ (sM _ _ hq')
          · rw [List.mem_singleton] at hy
            subst hy
            exact ⟨q, rfl, by rw [upd_ne nq]; exact hq⟩
        have hi4 : i < 4 := hi
        have ways : i = 0 ∨ i = 1 ∨ i = 2 ∨ i = 3 := by omega
        refine ⟨(0 : Int) + (i : Nat), M, x, x, x, x, rfl, upd_same, ?_⟩
        rcases ways with rfl | rfl | rfl | rfl
        · exact .inl ⟨rfl, .inl ⟨hxM.nos, fin⟩⟩
        · exact .inr (.inl ⟨rfl, .inl ⟨hxM.nos, fin⟩⟩)
        · exact .inr (.inr (.inl ⟨rfl, hxM.nos, fin⟩))
        · exact .inr (.inr (.inr ⟨rfl, hxM.nos, fin⟩))
      obtain ⟨si, ys, hF, hyl, hys⟩ := hP
      obtain ⟨y0, y1, y2, y3, rfl⟩ : ∃ y0 y1 y2 y3, ys = [y0, y1, y2, y3] := by
        match ys, hyl with
        | [a, b, c, e], _ => exact ⟨a, b, c, e, rfl⟩
      obtain ⟨q0, rfl, h0⟩ := hys y0 (by simp)
      obtain ⟨q1, rfl, h1⟩ := hys y1 (by simp)
      obtain ⟨q2, rfl, h2⟩ := hys y2 (by simp)
      obtain ⟨q3, rfl, h3⟩ := hys y3 (by simp)
      obtain ⟨w1, w2, w3⟩ := shw_outs (ds := [.list [.str "sheet", d], .list [.str "sheet", d], .list [.str "sheet", d], .list [.str "sheet", d]]) (fun y hy => by
        simp only [List.mem_cons, List.not_mem_nil, or_false, or_self] at hy
        subst hy
        exact hShT) (Nat.le_refl _)
      refine ⟨.ref F, _, rfl, .lst (SqL.of hF) (.cons (outs si h0) (.cons (outs si h1) (.cons (outs si h2) (.cons (outs si h3) .nil)))), w1, w2, w3, ?_⟩
      refine ⟨_, rfl, z2, fun G gG => ⟨z1, fun G1 gG1 => ⟨G1, 4, [.ref G], rfl, rfl, upd_same, by decide, by decide, (by show 1 * 4 ≤ sizeLine; omega), fun R gR => ?_⟩⟩⟩
      have e4 : (List.replicate (Int.toNat 4) [V.ref G]).flatten = [.ref G, .ref G, .ref G, .ref G] := rfl
      rw [e4]
      have sG := AT.Same.up (o := .lst [.str "sheet", x]) gG
      have sG1 := AT.Same.up (o := .lst [.ref G]) gG1
      have sR := AT.Same.up (o := .lst [.ref G, .ref G, .ref G, .ref G]) gR
      have hG := (sG1.trans sR) _ _ (upd_same (H := Hi) (a := G) (o := .lst [.str "sheet", x]))
      have sall := si.trans ((sG.trans sG1).trans sR)
      have og := outs sall hG
      refine ⟨.ref R, _, rfl, .lst (SqL.of upd_same) (.cons og (.cons og (.cons og (.cons og .nil)))), w1, w2, w3, rfl, _, rfl, ?_⟩
      rw [decide_eq_true rfl]
      refine iteF ?_
      have hx1 := hx.up sall
      have hs1 := hsj.up sall
      generalize upd (upd (upd Hi G (.lst [.str "sheet", x])) G1 (.lst [.ref G])) R (.lst [.ref G, .ref G, .ref G, .ref G]) = H1 at sall hx1 hs1 ⊢
      clear og hG sR sG1 sG
      have two : ∀ {H2 : Hp} {q1 q2 M : Addr} {t1 t2 : Str}, Same Hj H2 → H2 q1 = some (.lst [.str t1, x]) → H2 q2 = some (.lst [.str t2, x]) → H2 M = some (.lst [.ref q1, .ref q2]) → Dd K H2 (.ref M) (.list [.list [.str t1, d], .list [.str t2, d]]) := fun s2 e1 e2 e3 => .lst (SqL.of e3) (.cons (outs s2 e1) (.cons (outs s2 e2) .nil))
      have shw2 : ∀ {t1 t2 : Str}, Shw (.list [.str t1, d]) 4 206 → Shw (.list [.str t2, d]) 4 206 → (PyData.list [.list [.str t1, d], .list [.str t2, d]]).showable = true ∧ (PyData.list [.list [.str t1, d], .list [.str t2, d]]).depth ≤ 50 ∧ (PyData.list [.list [.str t1, d], .list [.str t2, d]]).shown.length ≤ sizeLine := fun a b => shw_outs (fun y hy => by
        simp only [List.mem_cons, List.not_mem_nil, or_false] at hy
        rcases hy with rfl | rfl
        · exact a
        · exact b) (by show 2 ≤ 4; decide)
      refine ⟨_, rfl, _, rfl, _, rfl, _, rfl, z4, fun M gM => ?_⟩
      have sM := AT.Same.up (o := .lst [.ref s, x, x, x]) gM
      refine ⟨0, M, _, _, _, _, rfl, upd_same, .inl ⟨rfl, .inr ⟨s, cs, rfl, hs1.up sM, .inl ⟨(hx1.up sM).nos, fun a1 H2 s2 ga1 ha1 => ?_⟩⟩⟩⟩
      refine ⟨_, rfl, _, rfl, _, rfl, _, rfl, z4, fun N gN => ?_⟩
      have sN := AT.Same.up (o := .lst [.ref s, .ref s, x, x]) gN
      have s12 := (sM.trans s2).trans sN
      refine ⟨0, N, _, _, _, _, rfl, upd_same, .inl ⟨rfl, .inr ⟨s, cs, rfl, hs1.up s12, .inr ⟨s, cs, rfl, hs1.up s12, (hx1.up s12).any, .inl ⟨(hx1.up s12).cue hzz, fun a2 H3 s3 ga2 ha2 => ⟨z2, fun U gU => ?_⟩⟩⟩⟩⟩⟩
      have sU := AT.Same.up (o := .lst [.ref a1, .ref a2]) gU
      have s1U := s12.trans (s3.trans sU)
      have ha1U := (sN.trans (s3.trans sU)) _ _ ha1
      have ha2U := sU _ _ ha2
      obtain ⟨w1, w2, w3⟩ := shw2 hShT hCuT
      refine ⟨_, rfl, .ref U, _, rfl, two (sall.trans s1U) ha1U ha2U upd_same, w1, w2, w3, ?_⟩
      refine ⟨_, rfl, z2, fun b1 gb1 => ⟨_, rfl, z2, fun b2 gb2 => ⟨z2, fun W gW => ?_⟩⟩⟩
      have sb1 := AT.Same.up (o := .lst [.str "sheet", x]) gb1
      have sb2 := AT.Same.up (o := .lst [.str "cue", x]) gb2
      have sW := AT.Same.up (o := .lst [.ref b1, .ref b2]) gW
      have s1W := s1U.trans ((sb1.trans sb2).trans sW)
      refine ⟨.ref W, _, rfl, two (sall.trans s1W) ((sb2.trans sW) _ _ upd_same) (sW _ _ upd_same) upd_same, w1, w2, w3, rfl, _, rfl, ?_⟩
      rw [decide_eq_true rfl]
      refine iteF ?_
      have hx2 := hx1.up s1W
      have hs2 := hs1.up s1W
      have sjW := sall.trans s1W
      generalize upd (upd (upd (upd H3 U (.lst [.ref a1, .ref a2])) b1 (.lst [.str "sheet", x])) b2 (.lst [.str "cue", x])) W (.lst [.ref b1, .ref b2]) = H4 at hx2 hs2 sjW ⊢
      clear s1W sW sb2 sb1 s1U sU s12 sN sM ha1U ha2U
      refine ⟨_, rfl, _, rfl, _, rfl, z4, fun M2 gM2 => ?_⟩
      have sM := AT.Same.up (o := .lst [.ref s, x, x, .non]) gM2
      refine ⟨1, M2, _, _, _, _, rfl, upd_same, .inr (.inl ⟨rfl, .inr ⟨s, cs, rfl, hs2.up sM, (hx2.up sM).any, .inl ⟨(hx2.up sM).unit, fun c1 H5 s5 gc1 hc1 => ?_⟩⟩⟩)⟩
      refine ⟨_, rfl, _, rfl, z4, fun N2 gN2 => ?_⟩
      have sN := AT.Same.up (o := .lst [.ref s, .str "beats", x, .non]) gN2
      have s45 := (sM.trans s5).trans sN
      refine ⟨1, N2, _, _, _, _, rfl, upd_same, .inr (.inl ⟨rfl, .inr ⟨s, cs, rfl, hs2.up s45, .str _, .inr ⟨true, rfl, (hx2.up s45).any, (hx2.up s45).amt, fun c2 H6 s6 gc2 hc2 => ⟨z2, fun U2 gU2 => ?_⟩⟩⟩⟩)⟩
      have sU := AT.Same.up (o := .lst [.ref c1, .ref c2]) gU2
      have s4U := s45.trans (s6.trans sU)
      have hc1U := (sN.trans (s6.trans sU)) _ _ hc1
      have hc2U := sU _ _ hc2
      obtain ⟨w1, w2, w3⟩ := shw2 hUnT hAmT
      refine ⟨_, rfl, .ref U2, _, rfl, two (sjW.trans s4U) hc1U hc2U upd_same, w1, w2, w3, ?_⟩
      refine ⟨_, rfl, z2, fun b1 gb1 => ⟨_, rfl, z2, fun b2 gb2 => ⟨z2, fun W gW => ?_⟩⟩⟩
      have sb1 := AT.Same.up (o := .lst [.str "unit", x]) gb1
      have sb2 := AT.Same.up (o := .lst [.str "amount", x]) gb2
      have sW := AT.Same.up (o := .lst [.ref b1, .ref b2]) gW
      have s4W := s4U.trans ((sb1.trans sb2).trans sW)
      refine ⟨.ref W, _, rfl, two (sjW.trans s4W) ((sb2.trans sW) _ _ upd_same) (sW _ _ upd_same) upd_same, w1, w2, w3, rfl, _, rfl, ?_⟩
      rw [decide_eq_true rfl]
      refine iteF ?_
      have hx3 := hx2.up s4W
      have hs3 := hs2.up s4W
      have sj3 := sjW.trans s4W
      generalize upd (upd (upd (upd H6 U2 (.lst [.ref c1, .ref c2])) b1 (.lst [.str "unit", x])) b2 (.lst [.str "amount", x])) W (.lst [.ref b1, .ref b2]) = H7 at hx3 hs3 sj3 ⊢
      clear s4W sW sb2 sb1 s4U sU s45 sN sM hc1U hc2U
      have fin : ∀ H8, Same H7 H8 → (∃ o1 o3, ([some (.ref s), some x, none, some (.ref U2)] : L2.St) = ([some (.ref s), o1, none, o3] : L2.St)) ∧ Same H0 H8 := fun H8 s8 => ⟨⟨_, _, rfl⟩, sj.trans (sj3.trans s8)⟩
      refine ⟨_, rfl, "zz9zz", rfl, ?_⟩
      rcases hx3.ne (K := K) with rfl | ⟨hnm, hlen, hcase⟩
      · refine .inl ⟨_, .str _, by decide +kernel, by decide +kernel, _, rfl, ?_⟩
        rw [show (!PyData.eqv (.str "zz9zz") (.str "zz9zz")) = false by rw [strD_eqv]; decide]
        exact iteF (iteF (fin _ (Same.refl _)))
      · have go : ∀ {b : Bool}, b = true → True := fun _ => trivial
        clear go
        have rest : ∀ {Qt : Prop}, Qt → Qt := fun h => h
        clear rest
        rcases hcase with ⟨e, he, hsh, hne⟩ | ⟨a, rfl, ha⟩
        · refine .inl ⟨e, he, hsh, by decide +kernel, _, rfl, ?_⟩
          rw [hne]
          refine iteT ⟨_, rfl, _, rfl, _, rfl, z4, fun M3 gM3 => ?_⟩
          have sM := AT.Same.up (o := .lst [.ref s, .ref s, .str "start", x]) gM3
          refine ⟨0, M3, _, _, _, _, rfl, upd_same, .inl ⟨rfl, .inr ⟨s, cs, rfl, hs3.up sM, .inr ⟨s, cs, rfl, hs3.up sM, .str _, .inr ⟨"start", rfl, List.mem_cons_self, (hx3.up sM).any, hlen, .inl ⟨hnm, fun c3 H8 s8 gc3 hc3 => ⟨_, rfl, z2, fun b3 gb3 => ?_⟩⟩⟩⟩⟩⟩⟩
          have sb := AT.Same.up (o := .lst [.str "name", x]) gb3
          refine ⟨fun _ => true, 2, alike_self (sb _ _ hc3) upd_same (fun v hv => ?_), _, rfl, iteF (fin _ ((sM.trans s8).trans sb))⟩
          simp only [List.mem_cons, List.not_mem_nil, or_false] at hv
          rcases hv with rfl | rfl
          · exact .inr rfl
          · exact any_okA (hx3.any (K := K))
        · refine .inr ⟨a, rfl, ha, _, rfl, ?_⟩
          refine iteT ⟨_, rfl, _, rfl, _, rfl, z4, fun M3 gM3 => ?_⟩
          have sM := AT.Same.up (o := .lst [.ref s, .ref s, .str "start", .ref a]) gM3
          refine ⟨0, M3, _, _, _, _, rfl, upd_same, .inl ⟨rfl, .inr ⟨s, cs, rfl, hs3.up sM, .inr ⟨s, cs, rfl, hs3.up sM, .str _, .inr ⟨"start", rfl, List.mem_cons_self, (hx3.up sM).any, hlen, .inl ⟨hnm, fun c3 H8 s8 gc3 hc3 => ⟨_, rfl, z2, fun b3 gb3 => ?_⟩⟩⟩⟩⟩⟩⟩
          have sb := AT.Same.up (o := .lst [.str "name", .ref a]) gb3
          refine ⟨fun _ => true, 2, alike_self (sb _ _ hc3) upd_same (fun v hv => ?_), _, rfl, iteF (fin _ ((sM.trans s8).trans sb))⟩
          simp only [List.mem_cons, List.not_mem_nil, or_false] at hv
          rcases hv with rfl | rfl
          · exact .inr rfl
          · exact .inl ⟨_, rfl⟩
    · obtain ⟨⟨o1, o3, rfl⟩, sj⟩ := hP
      have hsj := hs0.up sj
      refine ⟨_, rfl, _, _, rfl, rfl, z4, fun M gM => ?_⟩
      have sM := AT.Same.up (o := .lst [.ref s, .str "beats", .int (0 - 1), .non]) gM
      refine ⟨1, M, _, _, _, _, rfl, upd_same, .inr (.inl ⟨rfl, .inr ⟨s, cs, rfl, hsj.up sM, .str _, .inr ⟨true, rfl, .int _, .inr ⟨_, .int (-1), by decide⟩, fun c1 H2 s2 gc1 hc1 => ⟨_, _, rfl, rfl, z2, fun b gb => ?_⟩⟩⟩⟩)⟩
      have sb := AT.Same.up (o := .lst [.str "amount", .int (0 - 1)]) gb
      refine ⟨fun _ => true, 2, alike_self (sb _ _ hc1) upd_same (fun v hv => ?_), ?_⟩
      · simp only [List.mem_cons, List.not_mem_nil, or_false] at hv
        rcases hv with rfl | rfl
        · exact .inr rfl
        · exact .inr rfl
      · exact k _ (s0.trans (sj.trans ((sM.trans s2).trans sb)))
end
end K34

set_option maxHeartbeats 4000000
namespace K34
open PySem PySem.Spec PyProof.Rows L2 AT
/-! ### what is due is one thing -/
theorem first_bad {α : Type} {p : α → Prop} [DecidablePred p] : ∀ (ds : List α), (∀ e ∈ ds, p e) ∨ ∃ (i : Nat) (d : α), ds[i]? = some d ∧ ¬ p d ∧ ∀ j e, j < i → ds[j]? = some e → p e
  | [] => .inl (by simp)
  | d :: ds => by
    by_cases h : p d
    · rcases first_bad (p := p) ds with g | ⟨i, e, h1, h2, h3⟩
      · refine .inl fun e he => ?_
        rcases List.mem_cons.mp he with rfl | he
        · exact h
        · exact g e he
      · refine .inr ⟨i + 1, e, h1, h2, fun j x hj hx => ?_⟩
        cases j with
        | zero => cases hx; exact h
        | succ j => exact h3 j x (by omega) hx
    · exact .inr ⟨0, d, rfl, h, fun j e hj => absurd hj (Nat.not_lt_zero _)⟩
theorem badP_fun {cs ds : List Cue} {pre x f x' f' z z' : Str} (h : BadP cs ds pre x f (.str z)) (g : BadP cs ds pre x' f' (.str z')) : x = x' ∧ z = z' := by
  obtain ⟨i, d, h1, h2, h3, h4⟩ := h
  obtain ⟨j, e, g1, g2, g3, g4⟩ := g
  have nb : ∀ {d : Cue} {x f : Str}, ((isNameS (pre ++ d.1) = false ∧ x = "InvalidName" ∧ f = "value") ∨ (isNameS (pre ++ d.1) = true ∧ pre ++ d.1 ∈ nmS cs ∧ x = "Duplicate" ∧ f = "label")) → ¬ (isNameS (pre ++ d.1) = true ∧ pre ++ d.1 ∉ nmS cs) := fun h z => by
    rcases h with ⟨h, _⟩ | ⟨_, h, _⟩
    · rw [h] at z; exact absurd z.1 (by decide)
    · exact z.2 h
  rcases Nat.lt_trichotomy i j with h | rfl | h
  · exact absurd (g2 i d h h1) (nb h4)
  · rw [h1] at g1
    cases g1
    refine ⟨?_, V.str.inj (h3.trans g3.symm)⟩
    rcases h4 with ⟨a, rfl, _⟩ | ⟨a, _, rfl, _⟩ <;> rcases g4 with ⟨b, rfl, _⟩ | ⟨b, _, rfl, _⟩
    · rfl
    · rw [a] at b; cases b
    · rw [a] at b; cases b
    · rfl
  · exact absurd (h2 j e h g1) (nb g4)
theorem badP_all {cs ds : List Cue} {pre x f : Str} {v : V} (h : BadP cs ds pre x f v) (g : ∀ e ∈ ds, isNameS (pre ++ e.1) = true ∧ pre ++ e.1 ∉ nmS cs) : False := by
  obtain ⟨i, d, h1, h2, h3, h4⟩ := h
  have z := g d (List.mem_of_getElem? h1)
  rcases h4 with ⟨h, _⟩ | ⟨_, h, _⟩
  · rw [h] at z; exact absurd z.1 (by decide)
  · exact z.2 h
theorem due_fun {cs ds : List Cue} {az pre tag tag' : Str} {d d' : PyData} (h : DueA cs ds az pre tag d) (g : DueA cs ds az pre tag' d') : tag = tag' ∧ d = d' := by
  rcases h with ⟨h1, rfl, rfl⟩ | ⟨h1, ⟨h2, rfl, rfl⟩ | ⟨h2, ⟨f, z, hb, rfl, rfl⟩ | ⟨f, z, hb, rfl, rfl⟩ | ⟨ha, ⟨h8, rfl, rfl⟩ | ⟨h8, rfl, rfl⟩⟩⟩⟩ <;>
  rcases g with ⟨g1, rfl, rfl⟩ | ⟨g1, ⟨g2, rfl, rfl⟩ | ⟨g2, ⟨f', z', gb, rfl, rfl⟩ | ⟨f', z', gb, rfl, rfl⟩ | ⟨ga, ⟨g8, rfl, rfl⟩ | ⟨g8, rfl, rfl⟩⟩⟩⟩ <;>
  first
    | exact ⟨rfl, rfl⟩
    | exact absurd g1 h1
    | exact absurd h1 g1
    | (rw [h2] at g2; cases g2; done)
    | exact absurd (badP_fun hb gb).1 (by decide)
    | (obtain ⟨_, rfl⟩ := badP_fun hb gb; exact ⟨rfl, rfl⟩)
    | exact (badP_all hb ga).elim
    | exact (badP_all gb ha).elim
    | omega
theorem told0 {K : PySem.W.Frag} {H : Hp} {Q : VK} {E : XK} {M s t : Addr} {cs ds : List Cue} {az pre : Str} (hM : H M = some (.lst [.ref s, .ref t, .str az, .str pre])) (hs : ShtOk K H s cs) (ht : ShtOk K H t ds) (hl : cs.length + ds.length < 30) (hp : pre.length ≤ 1000)
    (k : ∀ tag d q x H', DueA cs ds az pre tag d → Same H H' → H q = none → H' q = some (.lst [.str tag, x]) → Dd K H' x d → Q (.ref q) H') : spToldW K [.int 0, .ref M] H Q E := by
  refine ⟨0, M, .ref s, .ref t, .str az, .str pre, rfl, hM, .inl ⟨rfl, .inr ⟨s, cs, rfl, hs, .inr ⟨t, ds, rfl, ht, .str _, ?_⟩⟩⟩⟩
  by_cases haz : az ∈ nmS cs
  · refine .inr ⟨az, rfl, haz, .str _, (fun z e => by cases e; exact hp), ?_⟩
    cases hn : isNameS pre with
    | false => exact .inl ⟨hn, fun q H' s1 g e => k "name" (.str pre) q _ H' (.inr ⟨haz, .inl ⟨hn, rfl, rfl⟩⟩) s1 g e (.str _)⟩
    | true =>
      refine .inr ⟨pre, rfl, hn, ?_⟩
      rcases first_bad (p := fun e : Cue => isNameS (pre ++ e.1) = true ∧ pre ++ e.1 ∉ nmS cs) ds with hall | ⟨i, d, hd, hbad, hfit⟩
      · refine .inr (.inr ⟨hall, hl, ?_⟩)
        by_cases h8 : 8 < (momS (cs ++ ds.map (atC az pre))).length
        · exact .inl ⟨h8, fun q H' s1 g e => k "many" (.int 8) q _ H' (.inr ⟨haz, .inr ⟨hn, .inr (.inr ⟨hall, .inl ⟨h8, rfl, rfl⟩⟩)⟩⟩) s1 g e (.int _)⟩
        · exact .inr ⟨by omega, fun q D H' s1 g e hc => k "cues" (cuesD (cs ++ ds.map (atC az pre))) q _ H' (.inr ⟨haz, .inr ⟨hn, .inr (.inr ⟨hall, .inr ⟨by omega, rfl, rfl⟩⟩)⟩⟩) s1 g e (dd_of hc.dp)⟩
      · cases hn2 : isNameS (pre ++ d.1) with
        | false => exact .inl ⟨"value", _, ⟨i, d, hd, hfit, rfl, .inl ⟨hn2, rfl, rfl⟩⟩, fun q H' s1 g e => k "name" (.str (pre ++ d.1)) q _ H' (.inr ⟨haz, .inr ⟨hn, .inl ⟨"value", _, ⟨i, d, hd, hfit, rfl, .inl ⟨hn2, rfl, rfl⟩⟩, rfl, rfl⟩⟩⟩) s1 g e (.str _)⟩
        | true =>
          have hm : pre ++ d.1 ∈ nmS cs := Classical.byContradiction fun z => hbad ⟨hn2, z⟩
          exact .inr (.inl ⟨"label", _, ⟨i, d, hd, hfit, rfl, .inr ⟨hn2, hm, rfl, rfl⟩⟩, fun q H' s1 g e => k "twice" (.str (pre ++ d.1)) q _ H' (.inr ⟨haz, .inr ⟨hn, .inr (.inl ⟨"label", _, ⟨i, d, hd, hfit, rfl, .inr ⟨hn2, hm, rfl, rfl⟩⟩, rfl, rfl⟩)⟩⟩) s1 g e (.str _)⟩)
  · refine .inl ⟨by rw [inSh_str]; exact decide_eq_false haz, fun q H' s1 g e => k "cue" (.str az) q _ H' (.inl ⟨haz, rfl, rfl⟩) s1 g e (.str _)⟩
/-! ### .. and can be shown -/
theorem Shw.int6 {i : Int} (h : i.natAbs < 1000000) : Shw (.int i) 0 7 := by
  have hs : (PyData.int i).showable = decide (i.natAbs.log2 < 1920) := by simp only [PyData.showable]
  refine ⟨?_, by simp [PyData.depth], ?_⟩
  · rw [hs, decide_eq_true_eq]
    exact Nat.lt_trans (log_lt (k := 20) (by decide) (Nat.lt_trans h (by decide))) (by decide)
  · have e : (PyData.int i).shown = Str.ofString (toString i) := by simp only [PyData.shown]
    rw [e]
    have h2 := int_text_length_le10 (k := 6) (by decide) (show i.natAbs < 10 ^ 6 by omega)
    rw [PySem.ofString_length]
    omega
theorem joinL_len {s : List Nat} {m : Nat} : ∀ {ps : List (List Nat)}, (∀ p ∈ ps, p.length ≤ m) → (TL.joinL s ps).length ≤ ps.length * (m + s.length)
  | [], _ => by simp [TL.joinL]
  | [p], h => by have := h p (by simp); simp only [TL.joinL, List.length_cons, List.length_nil]; omega
  | p :: q :: r, h => by
    have ih := joinL_len (s := s) (ps := q :: r) fun x hx => h x (List.mem_cons_of_mem _ hx)
    have := h p (by simp)
    show (p ++ (s ++ TL.joinL s (q :: r))).length ≤ _
    rw [List.length_append, List.length_append, List.length_cons (a := p), Nat.succ_mul]
    omega
theorem Shw.tuple {ds : List PyData} {n L : Nat} (h : ∀ d ∈ ds, Shw d n L) : Shw (.tuple ds) (n + 1) (3 + ds.length * (L + 2)) := by
  have hl := Shw.list h
  refine ⟨?_, ?_, ?_⟩
  · have e : (PyData.tuple ds).showable = (PyData.list ds).showable := by simp only [PyData.showable]
    rw [e]
    exact hl.sh
  · have e : (PyData.tuple ds).depth = (PyData.list ds).depth := by simp only [PyData.depth]
    rw [e]
    exact hl.dp
  · have e : (PyData.tuple ds).shown = tupleText (PyData.shownAll ds) := by simp only [PyData.shown]
    have e2 := shownAll_map id ds
    rw [List.map_id] at e2
    rw [e, e2]
    unfold tupleText
    rw [strLen_append, strLen_append]
    have z : (Str.join ", " (ds.map fun x => (id x).shown)).length ≤ ds.length * (L + 2) := by
      rw [TL.len_tl, TL.tl_join]
      refine Nat.le_trans (joinL_len (m := L) fun t ht => ?_) ?_
      · obtain ⟨y, hy, rfl⟩ := List.mem_map.mp ht
        obtain ⟨d, hd, rfl⟩ := List.mem_map.mp hy
        rw [← TL.len_tl]
        exact (h d hd).ln
      · rw [List.length_map, List.length_map]
        exact Nat.le_refl _
    have e3 : Str.length "(" = 1 := rfl
    have e4 : Str.length ((if (ds.map fun x => (id x).shown).length == 1 then ",)" else ")" : String)) ≤ 2 := by split <;> decide
    omega
theorem par_name {cs : List Cue} (hok : CuesOk cs) {c : Cue} (hc : c ∈ cs) : isNameS c.2.1 = true := by
  obtain ⟨i, hi⟩ := List.mem_iff_getElem?.mp hc
  rcases List.mem_cons.mp (hok.good.at hi).2 with e | e
  · rw [e]; decide +kernel
  · obtain ⟨d, hd, e⟩ := List.mem_map.mp e
    rw [← e]
    exact hok.name d (List.mem_of_mem_take hd)
theorem Shw.nameA {z : Str} (h : isNameS z = true) : Shw (.str z) 1 82 := (Shw.str (L := 8) (fun c hc => by have := name_cps h c hc; omega) (nameS_len h)).mono (by decide) (by decide)
theorem Shw.cueA {c : Cue} (h1 : isNameS c.1 = true) (h2 : isNameS c.2.1 = true) (hq : SmQ c.2.2.2) : Shw (cueD c) 2 339 := by
  have ht := hq.b.1
  have hd := hq.d
  have hp : Shw (pairD c.2.2.2) 1 82 := by
    refine (Shw.tuple (n := 0) (L := 7) fun d hd' => ?_).mono (by decide) (by show 3 + 2 * (7 + 2) ≤ 82; decide)
    simp only [List.mem_cons, List.not_mem_nil, or_false] at hd'
    rcases hd' with rfl | rfl
    · exact Shw.int6 (by omega)
    · exact Shw.int6 (by omega)
  have hu : Shw (.str (uS c.2.2.1)) 1 82 := (Shw.str (L := 8) (by cases c.2.2.1 <;> decide +kernel) (by cases c.2.2.1 <;> decide +kernel)).mono (by decide) (by decide)
  refine (Shw.tuple (n := 1) (L := 82) fun d hd' => ?_).mono (by decide) (by show 3 + 4 * (82 + 2) ≤ 339; decide)
  simp only [List.mem_cons, List.not_mem_nil, or_false] at hd'
  rcases hd' with rfl | rfl | rfl | rfl
  · exact Shw.nameA h1
  · exact Shw.nameA h2
  · exact hu
  · exact hp
theorem Shw.cuesA {cs : List Cue} (h : CuesOk cs) (hq : ∀ c ∈ cs, SmQ c.2.2.2) : Shw (cuesD cs) 3 10300 := by
  have hl := h.len
  refine (Shw.list (n := 2) (L := 339) fun d hd => ?_).mono (by decide) (by rw [List.length_map]; omega)
  obtain ⟨c, hc, rfl⟩ := List.mem_map.mp hd
  exact Shw.cueA (h.name c hc) (par_name h hc) (hq c hc)
theorem Shw.goodA {z : Str} (g : Good z) (h : z.length ≤ 30) : Shw (.str z) 3 10300 := (Shw.str (L := 30) (fun c hc => by have := g.ok c hc; omega) h).mono (by decide) (by decide)
theorem due_shw {cs ds : List Cue} {az pre tag : Str} {d : PyData} (h : DueA cs ds az pre tag d) (hok : CuesOk cs) (hdk : CuesOk ds) (hl : cs.length + ds.length < 30) (hcq : ∀ c ∈ cs, SmQ c.2.2.2) (hdq : ∀ c ∈ ds, SmQ c.2.2.2) (ga : Good az) (la : az.length ≤ 9) (gp : Good pre) (lp : pre.length ≤ 9) :
    Shw (.list [.str tag, d]) 50 30000 := by
  have fin : (∀ c ∈ tag.cps.toList, c < 1114112) ∧ tag.length ≤ 9 → Shw d 3 10300 → Shw (.list [.str tag, d]) 50 30000 := fun ht hd => by
    refine (Shw.list (n := 3) (L := 10300) fun x hx => ?_).mono (by decide) (by show 2 + 2 * (10300 + 2) ≤ 30000; decide)
    simp only [List.mem_cons, List.not_mem_nil, or_false] at hx
    rcases hx with rfl | rfl
    · exact (Shw.str (L := 9) ht.1 ht.2).mono (by decide) (by decide)
    · exact hd
  have bad : ∀ {x f : Str} {z : Str}, BadP cs ds pre x f (.str z) → Shw (.str z) 3 10300 := fun {x f z} hb => by
    obtain ⟨i, e, h1, _, h3, _⟩ := hb
    cases h3
    have hn := hdk.name e (List.mem_of_getElem? h1)
    have l2 := nameS_len hn
    have ln : (pre ++ e.1).length = pre.length + e.1.length := strLen_append _ _
    refine (Shw.str (L := 30) (fun c hc => ?_) (by omega)).mono (by decide) (by decide)
    have hq : c ∈ TL.tl (pre ++ e.1) := hc
    rw [TL.tl_append] at hq
    rcases List.mem_append.mp hq with q | q
    · have := gp.ok c q; omega
    · have := name_cps hn c q; omega
  rcases h with ⟨h1, rfl, rfl⟩ | ⟨h1, ⟨h2, rfl, rfl⟩ | ⟨h2, ⟨f, z, hb, rfl, rfl⟩ | ⟨f, z, hb, rfl, rfl⟩ | ⟨ha, ⟨h8, rfl, rfl⟩ | ⟨h8, rfl, rfl⟩⟩⟩⟩
  · exact fin (by decide +kernel) (Shw.goodA ga (by omega))
  · exact fin (by decide +kernel) (Shw.goodA gp (by omega))
  · exact fin (by decide +kernel) (bad hb)
  · exact fin (by decide +kernel) (bad hb)
  · exact fin (by decide +kernel) ((Shw.int (by decide)).mono (by decide) (by decide))
  · refine fin (by decide +kernel) (Shw.cuesA (att_ok hok hdk h1 ha hl) fun c hc => ?_)
    rcases List.mem_append.mp hc with hc | hc
    · exact hcq c hc
    · obtain ⟨e, he, rfl⟩ := List.mem_map.mp hc
      exact hdq e he
/-! ### a cue renamed -/
theorem nm_b2 : ∀ st, st < 3 → ∀ k, k < 7 → isNameS ("b" ++ nmT st k) = true ∧ ("b" : Str) ++ nmT st k ≠ "start" ∧ ("b" : Str) ++ nmT st k ≠ "zz1" ∧ ("b" : Str) ++ nmT st k ≠ "zz9zz" := by decide +kernel
theorem nm_zz : ∀ st, st < 3 → ∀ k, k < 7 → nmT st k ≠ "zz1" ∧ nmT st k ≠ "zz9zz" := by decide +kernel
theorem nm_bne : ∀ st, st < 3 → ∀ k, k < 7 → ∀ st2, st2 < 3 → ∀ k2, k2 < 7 → nmT st k ≠ ("b" : Str) ++ nmT st2 k2 := by decide +kernel
def renC (n0 n1 : Str) (c : Cue) : Cue := (if c.1 = n0 then n1 else c.1, if c.2.1 = n0 then n1 else c.2.1, c.2.2.1, c.2.2.2)
theorem ren_ok {l : List Cue} {c : Cue} {n1 : Str} (h : CuesOk (l ++ [c])) (hn : isNameS n1 = true) (hs : n1 ≠ "start") (hf : ∀ d ∈ l ++ [c], d.1 ≠ n1) : CuesOk ((l ++ [c]).map (renC c.1 n1)) ∧ ((l ++ [c]).map (renC c.1 n1)).length = (l ++ [c]).length ∧ ∀ d ∈ (l ++ [c]).map (renC c.1 n1), (∃ e ∈ l ++ [c], d.2.2.2 = e.2.2.2 ∧ (d.1 = e.1 ∨ d.1 = n1)) := by
  obtain ⟨g1, g2, g3⟩ := PR.Good.inv h.good rfl
  have e : (l ++ [c]).map (renC c.1 n1) = l ++ [(n1, c.2.1, c.2.2.1, c.2.2.2)] := by
    rw [List.map_append]
    have e1 : l.map (renC c.1 n1) = l := by
      refine (List.map_congr_left fun d hd => ?_).trans (List.map_id _)
      obtain ⟨i, hi⟩ := List.mem_iff_getElem?.mp hd
      have n1' : d.1 ≠ c.1 := fun z => g2 (by rw [← z]; exact List.mem_cons_of_mem _ (List.mem_map_of_mem hd))
      have n2' : d.2.1 ≠ c.1 := fun z => g2 (by
        rw [← z]
        rcases List.mem_cons.mp (g1.at hi).2 with q | q
        · rw [q]; exact List.mem_cons_self
        · obtain ⟨e, he, q⟩ := List.mem_map.mp q
          rw [← q]
          exact List.mem_cons_of_mem _ (List.mem_map_of_mem (List.mem_of_mem_take he)))
      obtain ⟨a, b, u, q⟩ := d
      show (if a = c.1 then n1 else a, if b = c.1 then n1 else b, u, q) = _
      rw [if_neg n1', if_neg n2']
      rfl
    have e2 : renC c.1 n1 c = (n1, c.2.1, c.2.2.1, c.2.2.2) := by
      unfold renC
      rw [if_pos rfl, if_neg fun z => g2 (by rw [← z]; exact g3)]
    rw [e1, List.map_singleton, e2]
  rw [e]
  refine ⟨⟨.snoc g1 (fun z => ?_) g3, fun d hd => ?_, fun d hd => ?_, ?_⟩, ?_, fun d hd => ?_⟩
  · rcases List.mem_cons.mp z with z | z
    · exact hs z
    · obtain ⟨d, hd, z⟩ := List.mem_map.mp z
      exact hf d (List.mem_append_left _ hd) z
  · rcases List.mem_append.mp hd with hd | hd
    · exact h.name d (List.mem_append_left _ hd)
    · rw [List.mem_singleton] at hd
      subst hd
      exact hn
  · rcases List.mem_append.mp hd with hd | hd
    · exact h.size d (List.mem_append_left _ hd)
    · rw [List.mem_singleton] at hd
      subst hd
      exact h.size c (by simp)
  · have := h.len
    rw [List.length_append, List.length_singleton] at this ⊢
    exact this
  · rw [List.length_append, List.length_append]; rfl
  · rcases List.mem_append.mp hd with hd | hd
    · exact ⟨d, List.mem_append_left _ hd, rfl, .inl rfl⟩
    · rw [List.mem_singleton] at hd
      subst hd
      exact ⟨c, by simp, rfl, .inr rfl⟩
end K34

set_option maxHeartbeats 8000000
namespace K34
open PySem PySem.Spec PyProof.Rows L2 AT
theorem same_sq {K : PySem.W.Frag} {H H' : Hp} {a : Addr} {xs : List V} (s : Same H H') (h : SqL K H a xs) : SqL K H' a xs := by
  rcases h with (h | ⟨o, h⟩) | h
  · exact .inl (.inl (s _ _ h))
  · exact .inl (.inr ⟨o, s _ _ h⟩)
  · exact .inr h
theorem good_small {z : Str} (h : ∀ c ∈ z.cps.toList, c < 1114112) (l : z.length ≤ 9) : Good z := ⟨h, by omega⟩
theorem pre_at {r : Int} (h0 : 0 ≤ r) (h1 : r < 9) : ∃ z : Str, atI [V.str "b", .str "c", .str "x", .str "abcdef", .str "abcdefgh", .str "", .str "1", .str "start", .str "be"] r = some (.str z) ∧ Good z ∧ z.length ≤ 9 := by
  have e : r = 0 ∨ r = 1 ∨ r = 2 ∨ r = 3 ∨ r = 4 ∨ r = 5 ∨ r = 6 ∨ r = 7 ∨ r = 8 := by omega
  rcases e with rfl | rfl | rfl | rfl | rfl | rfl | rfl | rfl | rfl
  · exact ⟨"b", rfl, good_small (by decide +kernel) (by decide +kernel), by decide +kernel⟩
  · exact ⟨"c", rfl, good_small (by decide +kernel) (by decide +kernel), by decide +kernel⟩
  · exact ⟨"x", rfl, good_small (by decide +kernel) (by decide +kernel), by decide +kernel⟩
  · exact ⟨"abcdef", rfl, good_small (by decide +kernel) (by decide +kernel), by decide +kernel⟩
  · exact ⟨"abcdefgh", rfl, good_small (by decide +kernel) (by decide +kernel), by decide +kernel⟩
  · exact ⟨"", rfl, good_small (by decide +kernel) (by decide +kernel), by decide +kernel⟩
  · exact ⟨"1", rfl, good_small (by decide +kernel) (by decide +kernel), by decide +kernel⟩
  · exact ⟨"start", rfl, good_small (by decide +kernel) (by decide +kernel), by decide +kernel⟩
  · exact ⟨"be", rfl, good_small (by decide +kernel) (by decide +kernel), by decide +kernel⟩
theorem at_good {cs : List Cue} (h : CuesOk cs) : ∀ z ∈ nmS cs ++ (["zz9zz", "c9"] : List Str), Good z ∧ z.length ≤ 9 := fun z hz => by
  rcases List.mem_append.mp hz with hz | hz
  · rcases List.mem_cons.mp hz with rfl | hz
    · exact ⟨good_small (by decide +kernel) (by decide +kernel), by decide +kernel⟩
    · obtain ⟨c, hc, rfl⟩ := List.mem_map.mp hz
      have hn := h.name c hc
      have hl := nameS_len hn
      exact ⟨good_small (fun x hx => by have := name_cps hn x hx; omega) (by omega), by omega⟩
  · simp only [List.mem_cons, List.not_mem_nil, or_false] at hz
    rcases hz with rfl | rfl
    · exact ⟨good_small (by decide +kernel) (by decide +kernel), by decide +kernel⟩
    · exact ⟨good_small (by decide +kernel) (by decide +kernel), by decide +kernel⟩
section
variable {P : Program} {w : World} {K : PySem.W.Frag} {mg : Str → Option Value} {base : Heap}
def spLaw (K : PySem.W.Frag) : Sp := fun vs H Q _ => ∃ (a : Addr) (ns : List Int), vs = [.ref a] ∧ SqL K H a (ns.map V.int) ∧ ∀ H', Q (.bl true) H'
theorem sc_law : FnScope ["_law_script", "_law_k", "_law_box_here", "_law_cues_here", "_law_more", "_law_names", "_law_cue", "_law_sheet", "_law_other", "_law_turn", "_law_at", "_law_prefix", "_law_found", "_law_due_here"] ["_law_script"] (defScope s_law) := ⟨rfl, rfl, rfl, by decide +kernel, rfl, by decide +kernel, by decide +kernel⟩
theorem ok_law (T : Tx K mg base) : OkG P w K mg base 18 (d_law.loc K) ["_law_script"] (spLaw K) := by
  refine mk_okG (k := 17) T.f_law sc_law (fun _ _ _ _ _ _ us hl => match us, hl with | [_], _ => rfl) (fun vs H Q E h => ?_) (fun cdv A outer s H vs Q E hgd hr h => ?_)
  · obtain ⟨a, ns, rfl, _⟩ := h
    rfl
  · obtain ⟨a, ns, rfl, hS, k⟩ := h
    refine ⟨_, (pss_cons (ps_for (passes_of rfl) rfl (pi_range1 (by rfl) T.b_range (pa_cons (pe_callB (call_max2 rfl) (by rfl) T.b_max (by decide +kernel) (pa_cons pe_int (pa_cons (pe_callB (call_min2 rfl) (by rfl) T.b_min (by decide +kernel) (pa_cons pe_int (pa_cons (pe_callB call_len_seq (by rfl) T.b_len (by decide +kernel) (pa_cons (pv 0) pa_nil)) pa_nil))) pa_nil))) pa_nil)) (pg_name (i := 1) sc_law.nd rfl (Or.inl rfl)) (pss_cons (ps_set (i := 2) sc_law.nd rfl (Or.inl rfl) (ok_call (ok_w_box T) (hr.mono (by decide)) rfl T.g_w_box passL (pa_cons (ok_call (ok_w_cell T) (hr.mono (by decide)) rfl T.g_w_cell passL (pa_cons (pv 0) (pa_cons (pv 1) pa_nil))) pa_nil)))
      (pss_cons (ps_par (by rfl) sc_law.nd (i := 3) (j := 4) rfl rfl (by decide) rfl rfl (pa_cons (ok_call (ok_w_cues T) (hr.mono (by decide)) rfl T.g_w_cues passL (pa_cons (pv 2) (pa_cons pe_int (pa_cons pe_int pa_nil)))) (pa_cons (ok_call (ok_w_cues T) (hr.mono (by decide)) rfl T.g_w_cues passL (pa_cons (pv 2) (pa_cons pe_int (pa_cons pe_int pa_nil)))) pa_nil)) (by rfl))
      (Evl.pss_cut (ps_if (PW.pt (pw_and (pt_cmpR (show OpR _ _ (rNeE K) from op_neE hr.units) (pv 3) (pe_lst pa_nil) (nomark _)) (pw_and (pt_cmpR (show OpR _ _ (rNeE K) from op_neE hr.units) (pv 4) (pe_lst pa_nil) (nomark _)) (pw_and1 (pt_cmpR op_eq (ok_call (ok_w_take T) (hr.mono (by decide)) rfl T.g_w_take passL (pa_cons (pv 2) (pa_cons pe_int pa_nil))) pe_int (nomark _)))))) (pss_cons (ps_set (i := 5) sc_law.nd rfl (Or.inr rfl) (pe_disp (pps_cons (pe_ix ix_tup (pe_ix ix_list (pv 3) (pe_un un_neg pe_int) (fun _ _ => rfl)) pe_int (fun _ _ => rfl)) (pe_op op_add_str pe_str (pe_ix ix_tup (pe_ix ix_list (pv 4) (pe_un un_neg pe_int) (fun _ _ => rfl)) pe_int (fun _ _ => rfl))) pps_nil) (by rfl) (by rfl) (fun z => by cases z) (by decide)))
      (pss_one (ps_setLc (i := 3) (own := [("_law_cue", 6)]) (g := (gName 6)) (tt := tYes) (by rfl) sc_law.nd rfl rfl (sw_true rfl rfl rfl (by decide +kernel)) (pi_list (pv 3)) (blkOk_by (own := [("_law_cue", 6)]) (N := ["_law_script", "_law_k", "_law_box_here", "_law_cues_here", "_law_more", "_law_names", "_law_cue", "_law_sheet", "_law_other", "_law_turn", "_law_at", "_law_prefix", "_law_found", "_law_due_here"]) (sc := defScope s_law) (by decide +kernel)) (fun _ _ _ _ _ => (pg_name (i := 6) sc_law.nd rfl (Or.inl rfl))) (fun _ _ _ _ _ => pts_nil) (fun _ _ _ _ _ => (pe_tup (pa_cons (pe_dget2 (by exact hu_of hr) (pv 5) (pe_ix (show IxR _ (rIxT K) from ix_tup) (pv 6) pe_int (fun _ _ => rfl)) (pe_ix (show IxR _ (rIxT K) from ix_tup) (pv 6) pe_int (fun _ _ => rfl)) ⟨by rfl, by rfl, by rfl, by rfl⟩) (pa_cons (pe_dget2 (by exact hu_of hr) (pv 5) (pe_ix (show IxR _ (rIxT K) from ix_tup) (pv 6) pe_int (fun _ _ => rfl)) (pe_ix (show IxR _ (rIxT K) from ix_tup) (pv 6) pe_int (fun _ _ => rfl)) ⟨by rfl, by rfl, by rfl, by rfl⟩) (pa_cons (pe_ix (show IxR _ (rIxT K) from ix_tup) (pv 6) pe_int (fun _ _ => rfl)) (pa_cons (pe_ix (show IxR _ (rIxT K) from ix_tup) (pv 6) pe_int (fun _ _ => rfl)) pa_nil))))))))) pss_nil)
      (pss_cons (ps_par (by rfl) sc_law.nd (i := 7) (j := 8) rfl rfl (by decide) rfl rfl (pa_cons (ok_make T.mkr_Sheet (ok_Sheet_init_ T) (hr.mono (by decide)) rfl T.g_Sheet (passE rfl rfl rfl rfl) (pa_cons (ok_call (ok_w_passed T) (hr.mono (by decide)) rfl T.g_w_passed passL (pa_cons (pv 3) pa_nil)) pa_nil)) (pa_cons (ok_make T.mkr_Sheet (ok_Sheet_init_ T) (hr.mono (by decide)) rfl T.g_Sheet (passE rfl rfl rfl rfl) (pa_cons (ok_call (ok_w_passed T) (hr.mono (by decide)) rfl T.g_w_passed passL (pa_cons (pv 4) pa_nil)) pa_nil)) pa_nil)) (by rfl))
      (pss_cons (ps_if (PW.pt (pw_or (pt_not (pt_val (ok_call (ok_w_turned_right T) (hr.mono (by decide)) rfl T.g_w_turned_right passL (pa_cons (pv 2) (pa_cons (pv 7) (pa_cons (pv 3) pa_nil)))))) (pw_or1 (pt_not (pt_val (ok_callG (ok_w_odd_right T) hgd (hr.mono (by decide)) rfl T.g_w_odd_right passL (pa_cons (pv 7) pa_nil))))))) (pss_one (ps_ret pe_bl)) pss_nil)
      (pss_cons (ps_if (pt_not (pt_val (ok_callG (ok_w_alike_right T) hgd (hr.mono (by decide)) rfl T.g_w_alike_right passL (pa_cons (pv 2) (pa_cons (pv 7) (pa_cons (pv 3) (pa_cons (pv 4) pa_nil))))))) (pss_one (ps_ret pe_bl)) pss_nil)
      (Evl.pss_cut (ps_set (i := 5) sc_law.nd rfl (Or.inr rfl) (pe_op op_cat (pe_op op_cat (pe_lst (pa_cons pe_str pa_nil)) (pe_lc (own := [("_law_cue", 6)]) (g := (gName 6)) (tt := tYes) (by rfl) sc_law.nd (pi_list (pv 3)) (blkOk_by (own := [("_law_cue", 6)]) (N := ["_law_script", "_law_k", "_law_box_here", "_law_cues_here", "_law_more", "_law_names", "_law_cue", "_law_sheet", "_law_other", "_law_turn", "_law_at", "_law_prefix", "_law_found", "_law_due_here"]) (sc := defScope s_law) (by decide +kernel)) (fun _ _ _ _ _ => (pg_name (i := 6) sc_law.nd rfl (Or.inl rfl))) (fun _ _ _ _ _ => pts_nil) (fun _ _ _ _ _ => (pe_ix (show IxR _ (rIxT K) from ix_tup) (pv 6) pe_int (fun _ _ => rfl))))) (pe_lst (pa_cons pe_str (pa_cons pe_str pa_nil)))))
      (pss_cons (ps_for (passes_of rfl) rfl (pi_range1 (by rfl) T.b_range (pa_cons pe_int pa_nil)) (pg_name (i := 9) sc_law.nd rfl (Or.inl rfl)) (pss_cons (ps_set (i := 10) sc_law.nd rfl (Or.inl rfl) (pe_ix ix_list (pv 5) (ok_call (ok_w_take T) (hr.mono (by decide)) rfl T.g_w_take passL (pa_cons (pv 2) (pa_cons (pe_callB call_len_seq (by rfl) T.b_len (by decide +kernel) (pa_cons (pv 5) pa_nil)) pa_nil))) (fun _ _ => rfl)))
      (pss_cons (ps_set (i := 11) sc_law.nd rfl (Or.inl rfl) (pe_ix ix_list (pe_lst (pa_cons pe_str (pa_cons pe_str (pa_cons pe_str (pa_cons pe_str (pa_cons pe_str (pa_cons pe_str (pa_cons pe_str (pa_cons pe_str (pa_cons pe_str pa_nil)))))))))) (ok_call (ok_w_take T) (hr.mono (by decide)) rfl T.g_w_take passL (pa_cons (pv 2) (pa_cons pe_int pa_nil))) (fun _ _ => rfl)))
      (pss_cons (ps_par (by rfl) sc_law.nd (i := 12) (j := 13) rfl rfl (by decide) rfl rfl (pa_cons (ok_call (ok_w_told T) (hr.mono (by decide)) rfl T.g_w_told passL (pa_cons pe_int (pa_cons (pe_lst (pa_cons (pv 7) (pa_cons (pv 8) (pa_cons (pv 10) (pa_cons (pv 11) pa_nil))))) pa_nil))) (pa_cons (ok_call (ok_w_due T) (hr.mono (by decide)) rfl T.g_w_due passL (pa_cons (pv 3) (pa_cons (pv 4) (pa_cons (pv 10) (pa_cons (pv 11) pa_nil))))) pa_nil)) (by rfl))
      (pss_one (ps_if (PW.pt (pw_or (pt_cmpR op_ne (pe_callB (call_repr hgd hr T.sys) (by rfl) T.b_repr (by decide +kernel) (pa_cons (pv 12) pa_nil)) (pe_callB (call_repr hgd hr T.sys) (by rfl) T.b_repr (by decide +kernel) (pa_cons (pv 13) pa_nil)) (nomark _)) (pw_or (pt_cmpR (op_neD hr.units) (ok_call (ok_w_plain T) (hr.mono (by decide)) rfl T.g_w_plain passL (pa_cons (pv 7) pa_nil)) (pv 3) (nomark _)) (pw_or1 (pt_cmpR (op_neD hr.units) (ok_call (ok_w_plain T) (hr.mono (by decide)) rfl T.g_w_plain passL (pa_cons (pv 8) pa_nil)) (pv 4) (nomark _)))))) (pss_one (ps_ret pe_bl)) pss_nil))))))
      (pss_one (ps_if (pt_cmpR (op_neO T.eq_Sheet (ok_Sheet_eq_ T) (hr.mono (by decide)) passL) (ok_call (ok_attached T) (hr.mono (by decide)) rfl T.g_attached (passE rfl rfl rfl rfl) (pa_cons (pv 7) (pa_cons (ok_make T.mkr_Sheet (ok_Sheet_init_ T) (hr.mono (by decide)) rfl T.g_Sheet (passE rfl rfl rfl rfl) (pa_cons (pe_lst pa_nil) pa_nil)) (pa_cons pe_str (pa_cons pe_str pa_nil))))) (pv 7) (nomark _)) (pss_one (ps_ret pe_bl)) pss_nil)))))))))))
      (pss_one (ps_ret (ok_call0 (ok_w_start_right T) (hr.mono (by decide)) rfl T.g_w_start_right passL)))), ?_⟩
    have hsz : sizeLine = 16777216 := sizeLine_eq
    have z2 : 2 ≤ sizeLine := by omega
    refine ⟨_, rfl, a, _, rfl, .inl hS, _, _, rfl, _, _, rfl, ?_⟩
    have hm : ∃ m : Int, m = (if (if ((ns.map V.int).length : Int) < 5 then ((ns.map V.int).length : Int) else 5) > 2 then (if ((ns.map V.int).length : Int) < 5 then ((ns.map V.int).length : Int) else 5) else 2) ∧ 0 ≤ m ∧ m ≤ 6 := by
      refine ⟨_, rfl, ?_, ?_⟩ <;> split <;> split <;> omega
    obtain ⟨mm, em, m0, m8⟩ := hm
    refine ⟨mm, (by rw [em]), (by omega), (by omega), for_range (lo := 0) (n := mm.toNat) (fun i σ' H' => ∃ o1 o2 o3 o4 o5 o7 o8 o9 o10 o11 o12 o13, σ' = ([some (.ref a), o1, o2, o3, o4, o5, none, o7, o8, o9, o10, o11, o12, o13] : L2.St) ∧ Same H H') ⟨_, _, _, _, _, _, _, _, _, _, _, _, rfl, Same.refl _⟩ ?_ ?_⟩
    · rintro i σ' H' hi ⟨o1, o2, o3, o4, o5, o7, o8, o9, o10, o11, o12, o13, rfl, s1⟩
      refine ⟨_, rfl, _, rfl, a, ns, i, (by rw [Int.zero_add]; rfl), same_sq s1 hS, (by omega), fun c => ?_⟩
      refine ⟨c, rfl, fun p H1 s2 hp b1 => ?_⟩
      have pv0 : ∀ {b : Addr} {o : HO}, H' b = some o → b ≠ p := fun {b o} e z => by subst z; rw [hp] at e; cases e
      refine ⟨_, rfl, p, 0, 5, 5, rfl, b1, (by omega), (by omega), (by omega), fun C cs H2 x2 b2 nC hcs hok hmom hcl dr gC => ?_⟩
      refine ⟨_, rfl, p, _, 5, 5, rfl, b2, (by omega), (by omega), (by omega), fun D ds H3 x3 b3 nD hds hdk hdmom hdl ddr gD => ⟨_, _, rfl, ?_⟩⟩
      have hcs3 := hcs.upX b2 x3 nC
      have sX3 : Same H' H3 := fun b o e => x3 _ _ (pv0 e) (x2 _ _ (pv0 e) (s2 _ _ e))
      obtain ⟨st1, hst1, hn1⟩ := dr.nm
      obtain ⟨st2, hst2, hn2⟩ := ddr.nm
      have base0 : ∀ c ∈ cs, SmQ c.2.2.2 ∧ c.1 ≠ "zz1" ∧ c.1 ≠ "zz9zz" := fun c hc => by
        obtain ⟨k, hk, e⟩ := hn1 c hc
        exact ⟨dr.b10 c hc, by rw [e]; exact (nm_zz st1 hst1 k hk).1, by rw [e]; exact (nm_zz st1 hst1 k hk).2⟩
      refine ⟨fun σ' H4 => ∃ (C' : Addr) (cs' : List Cue) (o5 : Option V), σ' = ([some (.ref a), some (.int (0 + (i : Int))), some (.ref p), some (.ref C'), some (.ref D), o5, none, o7, o8, o9, o10, o11, o12, o13] : L2.St) ∧ SameX p H3 H4 ∧ BoxAt H4 p 401 ∧ C' ≠ p ∧ CsL H4 C' cs' ∧ CuesOk cs' ∧ cs'.length ≤ 5 ∧ ∀ c ∈ cs', SmQ c.2.2.2 ∧ c.1 ≠ "zz1" ∧ c.1 ≠ "zz9zz", ?_, ?_⟩
      · obtain ⟨xs, hC3, hx⟩ := id hcs3
        obtain ⟨ys, hD3, hy⟩ := id hds
        have hxl := hx.length
        have hyl := hy.length
        have none0 : ∀ H4, Same H3 H4 → ∃ (C' : Addr) (cs' : List Cue) (o5' : Option V), ([some (.ref a), some (.int (0 + (i : Int))), some (.ref p), some (.ref C), some (.ref D), o5, none, o7, o8, o9, o10, o11, o12, o13] : L2.St) = ([some (.ref a), some (.int (0 + (i : Int))), some (.ref p), some (.ref C'), some (.ref D), o5', none, o7, o8, o9, o10, o11, o12, o13] : L2.St) ∧ SameX p H3 H4 ∧ BoxAt H4 p 401 ∧ C' ≠ p ∧ CsL H4 C' cs' ∧ CuesOk cs' ∧ cs'.length ≤ 5 ∧ ∀ c ∈ cs', SmQ c.2.2.2 ∧ c.1 ≠ "zz1" ∧ c.1 ≠ "zz9zz" := fun H4 s4 => ⟨C, cs, _, rfl, sameX_of s4, (b3.up s4).mono (by omega), nC, hcs3.up s4, hok, hcl, base0⟩
        refine ⟨_, rfl, Nat.zero_le _, fun t gt => ?_⟩
        have st := AT.Same.up (o := .lst []) gt
        refine ⟨xs, ⟨C, t, rfl, rfl, SqL.of (st _ _ hC3), SqL.of upd_same⟩, _, rfl, ?_⟩
        cases hem : xs.isEmpty with
        | true => exact iteF (iteF (none0 _ st))
        | false =>
          refine iteT ⟨_, rfl, Nat.zero_le _, fun u gu => ?_⟩
          have su := AT.Same.up (o := .lst []) gu
          have stu := st.trans su
          refine ⟨ys, ⟨D, u, rfl, rfl, SqL.of (stu _ _ hD3), SqL.of upd_same⟩, _, rfl, ?_⟩
          cases hem2 : ys.isEmpty with
          | true => exact iteF (iteF (none0 _ stu))
          | false =>
            have b4 := b3.up stu
            have hcs4 := hcs3.up stu
            have hds4 := hds.up stu
            have x4 : SameX p H3 _ := sameX_of stu
            generalize upd (upd H3 t (.lst [])) u (.lst []) = H4 at b4 hcs4 hds4 x4 ⊢
            refine iteT ⟨_, rfl, p, _, _, rfl, b4, (by omega), (by decide), (by decide +kernel), fun r H5 r0 r1 x5 b5 => ⟨rfl, _, rfl, ?_⟩⟩
            have hcs5 := hcs4.upX b4 x5 nC
            have hds5 := hds4.upX b4 x5 nD
            have x35 := x4.trans x5
            refine ite2 (fun _ => ?_) (fun _ => ⟨C, cs, _, rfl, x35, b5.mono (by omega), nC, hcs5, hok, hcl, base0⟩)
            obtain ⟨xs5, hC5, hx5⟩ := id hcs5
            obtain ⟨ys5, hD5, hy5⟩ := id hds5
            have hx5l := hx5.length
            have hy5l := hy5.length
            have xne : cs ≠ [] := by rintro rfl; rw [List.eq_nil_of_length_eq_zero (l := xs) (by simpa using hxl)] at hem; cases hem
            have yne : ds ≠ [] := by rintro rfl; rw [List.eq_nil_of_length_eq_zero (l := ys) (by simpa using hyl)] at hem2; cases hem2
            obtain ⟨l, cl, rfl⟩ : ∃ l cl, cs = l ++ [cl] := ⟨_, _, (List.dropLast_concat_getLast xne).symm⟩
            obtain ⟨l2, dl, rfl⟩ : ∃ l cl, ds = l ++ [cl] := ⟨_, _, (List.dropLast_concat_getLast yne).symm⟩
            have gl : ∀ {α β : Type} {F : α → β → Prop} {zs : List α} {l : List β} {c : β}, Paired F zs (l ++ [c]) → ∃ z, zs.getLast? = some z ∧ F z c := fun {α β F zs l c} h => by
              have hl := h.length
              rw [List.length_append, List.length_singleton] at hl
              obtain ⟨z, hz⟩ : ∃ z, zs[l.length]? = some z := ⟨_, List.getElem?_eq_getElem (by omega)⟩
              obtain ⟨c', hc', hf⟩ := prd_getL h hz
              rw [List.getElem?_append_right (Nat.le_refl _), Nat.sub_self] at hc'
              cases hc'
              exact ⟨z, by rw [List.getLast?_eq_getElem?, hl]; exact hz, hf⟩
            obtain ⟨vc, hvc, tc, pc, rfl, htc, hpc⟩ := gl hx5
            obtain ⟨vd, hvd, td, pd, rfl, htd, hpd⟩ := gl hy5
            obtain ⟨k2, hk2, ek2⟩ := hn2 dl (by simp)
            have hb2 := nm_b2 st2 hst2 k2 hk2
            rw [← ek2] at hb2
            have hlb : Str.length "b" + dl.1.length ≤ sizeLine := by
              have := nameS_len (hdk.name dl (by simp))
              have e : Str.length "b" = 1 := rfl
              omega
            refine fun d gd => ⟨_, rfl, _, rfl, C, _, -1, _, rfl, rfl, SqL.of (AT.Same.up gd _ _ hC5), last_at hvc, tc, _, 0, _, rfl, rfl, SqT.of (AT.Same.up gd _ _ htc), rfl, _, rfl, _, rfl, D, _, -1, _, rfl, rfl, SqL.of (AT.Same.up gd _ _ hD5), last_at hvd, td, _, 0, _, rfl, rfl, SqT.of (AT.Same.up gd _ _ htd), rfl, _, _, rfl, rfl, hlb, upd_same, [(Sum.inr cl.1, .str ("b" ++ dl.1))], rfl, (by show 1 ≤ 15; decide), ?_⟩
            have em2 : mergeK [] [((Sum.inr cl.1 : Key), V.str ("b" ++ dl.1))] = ([(Sum.inr cl.1, V.str ("b" ++ dl.1))] : List (Key × V)) := rfl
            rw [em2]
            have sd : Same H5 (upd (upd H5 d (.dK [])) d (.dK [(Sum.inr cl.1, .str ("b" ++ dl.1))])) := AT.Same.new (AT.Same.up gd) gd
            have hd6 : upd (upd H5 d (.dK [])) d (.dK [(Sum.inr cl.1, .str ("b" ++ dl.1))]) d = some (.dK [(Sum.inr cl.1, .str ("b" ++ dl.1))]) := upd_same
            have b6 := b5.up sd
            have hC6 := sd _ _ hC5
            have x36 := x35.trans (sameX_of (p := p) sd)
            have hx6 : Paired (CuL (upd (upd H5 d (.dK [])) d (.dK [(Sum.inr cl.1, .str ("b" ++ dl.1))]))) xs5 (l ++ [cl]) := Paired.mapP hx5 fun _ _ z => z.up (TT.of sd)
            generalize upd (upd H5 d (.dK [])) d (.dK [(Sum.inr cl.1, .str ("b" ++ dl.1))]) = H6 at hd6 b6 hC6 x36 hx6 ⊢
            have hfr : ∀ e ∈ l ++ [cl], e.1 ≠ "b" ++ dl.1 := fun e he => by
              obtain ⟨k1, hk1, ek1⟩ := hn1 e he
              rw [ek1, ek2]
              exact nm_bne st1 hst1 k1 hk1 st2 hst2 k2 hk2
            obtain ⟨rok, rlen, rmem⟩ := ren_ok hok hb2.1 hb2.2.1 hfr
            have vget : ∀ n : Str, ((valV [((Sum.inr cl.1 : Key), V.str ("b" ++ dl.1))] (Sum.inr n)).getD (.str n)) = .str (if n = cl.1 then "b" ++ dl.1 else n) := fun n => by
              by_cases e : n = cl.1
              · subst e
                rw [if_pos rfl, valV_pos (p := ((Sum.inr cl.1 : Key), V.str ("b" ++ dl.1))) rfl]
                rfl
              · rw [if_neg e, valV_neg (p := ((Sum.inr cl.1 : Key), V.str ("b" ++ dl.1))) (fun z => e (Sum.inr.inj z).symm)]
                rfl
            refine ⟨_, rfl, C, rfl, ⟨_, SqL.of hC6⟩, fun F gF => ?_⟩
            refine lc_list (K := K) (a := C) (xs := xs5) (fun j Hj => Same H6 Hj ∧ ∃ zs, Hj F = some (.lst zs) ∧ Paired (CuL Hj) zs (((l ++ [cl]).take j).map (renC cl.1 ("b" ++ dl.1)))) ⟨AT.Same.up gF, [], upd_same, .nil⟩ (fun j Hj _ hP => SqL.of (hP.1 _ _ hC6)) (fun j x Hj hxj hP => ?_) (fun H7 hP => ?_)
            · obtain ⟨sm, zs, hF, hz⟩ := hP
              obtain ⟨e, he, t1, pr, rfl, ht1, hpr⟩ := prd_getL hx6 hxj
              have hj : j < xs5.length := (List.getElem?_eq_some_iff.mp hxj).1
              have hzl := hz.length
              rw [List.length_map, List.length_take] at hzl
              have ht1' := sm _ _ ht1
              have hdj := sm _ _ hd6
              refine ⟨rfl, ?_⟩
              dsimp only [tYes]
              have hdj2 : IsD Hj d := .inl ⟨_, .inl hdj⟩
              refine iteT ⟨_, rfl, d, rfl, hdj2, _, rfl, t1, _, 0, _, rfl, rfl, SqT.of ht1', rfl, _, rfl, t1, _, 0, _, rfl, rfl, SqT.of ht1', rfl, _, .inl ⟨_, Sum.inr e.1, .inl hdj, rfl, rfl⟩, ?_⟩
              rw [vget]
              refine ⟨_, rfl, d, rfl, hdj2, _, rfl, t1, _, 1, _, rfl, rfl, SqT.of ht1', rfl, _, rfl, t1, _, 1, _, rfl, rfl, SqT.of ht1', rfl, _, .inl ⟨_, Sum.inr e.2.1, .inl hdj, rfl, rfl⟩, ?_⟩
              rw [vget]
              refine ⟨_, rfl, t1, _, 2, _, rfl, rfl, SqT.of ht1', rfl, _, rfl, t1, _, 3, _, rfl, rfl, SqT.of ht1', rfl, (by show 4 ≤ sizeLine; omega), fun t2 gt2 => ?_⟩
              have sT := AT.Same.up (o := .tup [.str (if e.1 = cl.1 then "b" ++ dl.1 else e.1), .str (if e.2.1 = cl.1 then "b" ++ dl.1 else e.2.1), .str (uS e.2.2.1), .ref pr]) gt2
              have hF2 := sT _ _ hF
              have tu : TT (upd Hj t2 (.tup [.str (if e.1 = cl.1 then "b" ++ dl.1 else e.1), .str (if e.2.1 = cl.1 then "b" ++ dl.1 else e.2.1), .str (uS e.2.2.1), .ref pr])) (upd (upd Hj t2 (.tup [.str (if e.1 = cl.1 then "b" ++ dl.1 else e.1), .str (if e.2.1 = cl.1 then "b" ++ dl.1 else e.2.1), .str (uS e.2.2.1), .ref pr])) F (.lst (zs ++ [.ref t2]))) := TT.up hF2 (fun _ z => nomatch z)
              refine ⟨zs, hF2, by omega, AT.Same.new (sm.trans sT) gF, _, upd_same, ?_⟩
              rw [List.take_add_one, he, Option.toList_some, List.map_append]
              exact prd_app (Paired.mapP hz fun _ _ z => z.up ((TT.of sT).trans tu)) (.cons ⟨t2, pr, rfl, tu _ _ upd_same, tu _ _ (sT _ _ (sm _ _ hpr))⟩ .nil)
            · obtain ⟨sm, zs, hF, hz⟩ := hP
              rw [hx5l, List.take_length] at hz
              refine ⟨F, _, _, rfl, x36.trans (sameX_of sm), (b6.up sm).mono (by omega), box_ne2 b6 gF, ⟨zs, hF, hz⟩, rok, by rw [rlen]; exact hcl, fun e he => ?_⟩
              obtain ⟨e0, he0, eq1, eq2⟩ := rmem e he
              obtain ⟨g1, g2, g3⟩ := base0 e0 he0
              rw [eq1]
              refine ⟨g1, ?_⟩
              rcases eq2 with q | q
              · rw [q]; exact ⟨g2, g3⟩
              · rw [q]; exact ⟨hb2.2.2.1, hb2.2.2.2⟩
      rintro σ' H4 ⟨C', cs', q5, rfl, x4, b4, nC', hcs4, hok', hcl', hfa⟩
      have hds4 := hds.upX b3 x4 nD
      have mom' : (momS cs').length ≤ 8 := Nat.le_trans (PR.mom_le ("start" : Str) cs') (by omega)
      have momD : (momS ds).length ≤ 8 := Nat.le_trans (PR.mom_le ("start" : Str) ds) (by omega)
      have hlen : cs'.length + ds.length < 30 := by omega
      have sX4 : Same H' H4 := fun b o e => x4 _ _ (pv0 e) (sX3 _ _ e)
      clear hcs3 base0 hn1 hn2
      refine ⟨_, rfl, C', cs', rfl, hcs4, (by omega), fun c hc => (hfa c hc).1.b.mono (by decide), fun Ps xs' H5 s5 gP hP hy' => ?_⟩
      refine mk_sheetR (shIn_of hP hy' (fun c hc => ⟨hok'.name c hc, hok'.size c hc⟩) (by omega) (.inr ⟨hok'.good, .inr ⟨mom', fun sh H6 s6 gsh hsh => ?_⟩⟩))
      have hsh : ShtOk K H6 sh cs' := ⟨hsh, hok', mom'⟩
      have s46 := s5.trans s6
      have hds6 := hds4.up s46
      refine ⟨_, rfl, D, ds, rfl, hds6, (by omega), fun c hc => (ddr.b10 c hc).b.mono (by decide), fun Ps2 ys' H7 s7 gP2 hP2 hy2 => ?_⟩
      refine mk_sheetR (shIn_of hP2 hy2 (fun c hc => ⟨hdk.name c hc, hdk.size c hc⟩) (by omega) (.inr ⟨hdk.good, .inr ⟨momD, fun oh H8 s8 goh hoh => ?_⟩⟩))
      have hoh : ShtOk K H8 oh ds := ⟨hoh, hdk, momD⟩
      have s68 := s7.trans s8
      have s48 := s46.trans s68
      have hsh8 := hsh.up s68
      have hcs8 := hcs4.up s48
      have hds8 := hds4.up s48
      have b8 := b4.up s48
      have sX8 := sX4.trans s48
      clear hds6 hds4 hcs4 hy2 hP2 hy' hP
      refine ⟨_, _, rfl, ?_⟩
      refine ⟨_, rfl, _, rfl, _, rfl, p, 401, sh, C', cs', rfl, b8, (by omega), nC', hsh8, hcs8, fun c hc => (hfa c hc).1, fun H9 x9 b9 => ⟨_, rfl, iteF ?_⟩⟩
      have hsh9 := hsh8.upX b8 x9
      have hoh9 := hoh.upX b8 x9
      have hcs9 := hcs8.upX b8 x9 nC'
      have hds9 := hds8.upX b8 x9 nD
      refine ⟨_, rfl, sh, cs', rfl, hsh9, fun c hc => (hfa c hc).2.2, fun H10 s10 => ⟨_, rfl, iteF ?_⟩⟩
      have hsh10 := hsh9.up s10
      have hoh10 := hoh9.up s10
      have hcs10 := hcs9.up s10
      have hds10 := hds9.up s10
      have b10 := b9.up s10
      refine ⟨_, rfl, _, rfl, _, rfl, _, rfl, p, _, sh, C', D, cs', ds, rfl, b10, (by omega), nC', nD, hsh10, hcs10, hds10, hdk, hcl', hdl, fun c hc => ⟨(hfa c hc).1, (hfa c hc).2.1⟩, fun c hc => ddr.b10 c hc, fun H11 x11 b11 => ⟨_, rfl, iteF ?_⟩⟩
      have hsh11 := hsh10.upX b10 x11
      have hoh11 := hoh10.upX b10 x11
      have hcs11 := hcs10.upX b10 x11 nC'
      have hds11 := hds10.upX b10 x11 nD
      have sX11 : Same H' H11 := fun b o e => x11 _ _ (pv0 e) (s10 _ _ (x9 _ _ (pv0 e) (sX8 _ _ e)))
      clear hds10 hcs10 hoh10 hsh10 hds9 hcs9 hoh9 hsh9 hds8 hcs8 hoh hsh8 hsh
      refine ⟨fun σ' H12 => ∃ N, σ' = ([some (.ref a), some (.int (0 + (i : Int))), some (.ref p), some (.ref C'), some (.ref D), some (.ref N), none, some (.ref sh), some (.ref oh), o9, o10, o11, o12, o13] : L2.St) ∧ Same H11 H12 ∧ H11 N = none ∧ H12 N = some (.lst ((nmS cs' ++ (["zz9zz", "c9"] : List Str)).map V.str)), ?_, ?_⟩
      · obtain ⟨xs', hC', hx'⟩ := id hcs11
        have hxl' := hx'.length
        refine ⟨(by show 1 ≤ sizeLine; omega), fun q gq => ?_⟩
        have sq := AT.Same.up (o := .lst [.str "start"]) gq
        refine ⟨_, rfl, C', rfl, ⟨_, SqL.of (sq _ _ hC')⟩, fun F gF => ?_⟩
        refine lc_list (K := K) (a := C') (xs := xs') (fun j Hj => Same (upd H11 q (.lst [.str "start"])) Hj ∧ Hj F = some (.lst (((cs'.take j).map (·.1)).map V.str))) ⟨AT.Same.up gF, upd_same⟩ (fun j Hj _ hP => SqL.of (hP.1 _ _ (sq _ _ hC'))) (fun j x Hj hxj hP => ?_) (fun H12 hP => ?_)
        · obtain ⟨sm, hF⟩ := hP
          obtain ⟨c, hc, t, pr, rfl, ht, hpr⟩ := prd_getL hx' hxj
          refine ⟨rfl, ?_⟩
          dsimp only [tYes]
          refine iteT ⟨_, rfl, t, _, 0, _, rfl, rfl, SqT.of (sm _ _ (sq _ _ ht)), rfl, _, hF, ?_, AT.Same.new sm gF, ?_⟩
          · rw [List.length_map, List.length_map, List.length_take]
            omega
          · rw [List.take_add_one, hc, Option.toList_some, List.map_append, List.map_append, upd_same]
            rfl
        · obtain ⟨sm, hF⟩ := hP
          rw [hxl', List.take_length] at hF
          refine ⟨q, F, _, _, rfl, rfl, sm _ _ upd_same, hF, (by rw [List.length_map, List.length_map, List.length_singleton]; omega), fun E1 gE1 => ⟨z2, fun E2 gE2 => ?_⟩⟩
          have sE1 := AT.Same.up (o := .lst ([.str "start"] ++ (cs'.map (·.1)).map V.str)) gE1
          have sE2 := AT.Same.up (o := .lst [.str "zz9zz", .str "c9"]) gE2
          refine ⟨E1, E2, _, _, rfl, rfl, sE2 _ _ upd_same, upd_same, (by rw [List.length_append, List.length_map, List.length_map, List.length_singleton]; show 1 + cs'.length + 2 ≤ sizeLine; omega), fun N gN => ⟨N, rfl, ?_, ?_, ?_⟩⟩
          · exact ((sq.trans sm).trans (sE1.trans sE2)).trans (AT.Same.up gN)
          · exact none_of ((sq.trans sm).trans (sE1.trans sE2)) gN
          · rw [upd_same, List.map_append]
            rfl
      rintro σ' H12 ⟨N, rfl, s12, gN, hN⟩
      have nN : N ≠ p := box_ne2 b11 gN
      have hsh12 := hsh11.up s12
      have hoh12 := hoh11.up s12
      have hcs12 := hcs11.up s12
      have hds12 := hds11.up s12
      have b12 := b11.up s12
      have sX12 := sX11.trans s12
      clear hds11 hcs11 hoh11 hsh11
      have hag := at_good hok'
      have hnl : (nmS cs' ++ (["zz9zz", "c9"] : List Str)).length = cs'.length + 3 := by
        rw [List.length_append]
        show (cs'.map (·.1)).length + 1 + 2 = _
        rw [List.length_map]
      generalize nmS cs' ++ (["zz9zz", "c9"] : List Str) = nl at hN hag hnl
      refine ⟨5, rfl, by decide, by decide, for_range (lo := 0) (n := 5) (fun j σ' Hj => ∃ o9 o10 o11 o12 o13, σ' = ([some (.ref a), some (.int (0 + (i : Int))), some (.ref p), some (.ref C'), some (.ref D), some (.ref N), none, some (.ref sh), some (.ref oh), o9, o10, o11, o12, o13] : L2.St) ∧ SameX p H12 Hj ∧ BoxAt Hj p (416 + 2 * j)) ⟨_, _, _, _, _, rfl, SameX.refl _ _, b12⟩ ?_ ?_⟩
      · rintro j σ' Hj hj ⟨q9, q10, q11, q12, q13, rfl, xj, bj⟩
        have hNj := xj _ _ nN hN
        refine ⟨_, rfl, _, rfl, _, rfl, N, _, rfl, .inl (SqL.of hNj), p, _, _, rfl, bj, (by omega), (by rw [List.length_map, hnl]; omega), big1 (by rw [List.length_map, hnl]; omega), fun r H13 r0 r1 x13 b13 => ?_⟩
        obtain ⟨rn, rfl⟩ := Int.eq_ofNat_of_zero_le r0
        have hrn : rn < nl.length := by rw [List.length_map] at r1; omega
        have hat1 : (nl.map V.str)[rn]? = some (.str nl[rn]) := by rw [List.getElem?_map, List.getElem?_eq_getElem hrn]; rfl
        have hN13 := x13 _ _ nN hNj
        refine ⟨N, _, _, _, rfl, rfl, SqL.of hN13, atI_nat hat1, ?_⟩
        obtain ⟨ga, la⟩ := hag _ (List.getElem_mem hrn)
        generalize nl[rn] = az at ga la ⊢
        refine ⟨(by show 9 ≤ sizeLine; omega), fun PL gPL => ?_⟩
        have sPL := AT.Same.up (o := .lst [.str "b", .str "c", .str "x", .str "abcdef", .str "abcdefgh", .str "", .str "1", .str "start", .str "be"]) gPL
        have b13' := b13.up sPL
        refine ⟨_, rfl, p, _, _, rfl, b13', (by omega), (by decide), (by decide +kernel), fun r2 H14 r20 r21 x14 b14 => ?_⟩
        obtain ⟨pre, hpre, gp, lp⟩ := pre_at r20 r21
        refine ⟨PL, _, _, _, rfl, rfl, SqL.of (x14 _ _ (box_ne2 b13 gPL) upd_same), hpre, ?_⟩
        have x1214 := xj.trans (x13.trans ((sameX_of (p := p) sPL).trans x14))
        have hsh14 := hsh12.upX b12 x1214
        have hoh14 := hoh12.upX b12 x1214
        have hcs14 := hcs12.upX b12 x1214 nC'
        have hds14 := hds12.upX b12 x1214 nD
        refine ⟨_, rfl, _, rfl, _, rfl, _, rfl, (by show 4 ≤ sizeLine; omega), fun M gM => ?_⟩
        have sM := AT.Same.up (o := .lst [.ref sh, .ref oh, .str az, .str pre]) gM
        refine told0 (E := E0) upd_same (hsh14.up sM) (hoh14.up sM) hlen (by omega) fun tag d q1 v1 H15 hdue s15 gq1 hq1 hv1 => ?_
        have s1415 := sM.trans s15
        refine ⟨_, rfl, _, rfl, _, rfl, _, rfl, C', D, cs', ds, az, pre, rfl, hcs14.up s1415, hds14.up s1415, hok', hdk, hlen, gp, (by omega), fun tag2 d2 q2 v2 H16 hdue2 s16 gq2 hq2 hv2 => ⟨_, _, rfl, ?_⟩⟩
        obtain ⟨rfl, rfl⟩ := due_fun hdue hdue2
        obtain ⟨w1, w2, w3⟩ := (due_shw hdue hok' hdk hlen (fun c hc => (hfa c hc).1) (fun c hc => ddr.b10 c hc) ga la gp lp).ok (by omega) (by omega)
        have hq16 := s16 _ _ hq1
        refine ⟨_, rfl, .ref q1, .list [.str tag, d], rfl, .lst (SqL.of hq16) (.cons (.str _) (.cons (Dd.up s16 hv1) .nil)), w1, w2, w3, _, rfl, .ref q2, .list [.str tag, d], rfl, .lst (SqL.of hq2) (.cons (.str _) (.cons hv2 .nil)), w1, w2, w3, rfl, _, rfl, ?_⟩
        rw [decide_eq_true rfl]
        refine iteF ?_
        have s1416 := s1415.trans s16
        have hcs16 := hcs14.up s1416
        have hds16 := hds14.up s1416
        refine ⟨_, rfl, sh, cs', rfl, hsh14.up s1416, fun X1 H17 s17 gX1 hX1 => ⟨_, rfl, cuesD cs', cuesD cs', hX1.dp, (hcs16.up s17).dp, cuesD_shaped hok'.strs, cuesD_shaped hok'.strs, _, rfl, ?_⟩⟩
        rw [cuesD_eqv, decide_eq_true rfl]
        refine iteF ⟨_, rfl, oh, ds, rfl, hoh14.up (s1416.trans s17), fun X2 H18 s18 gX2 hX2 => ⟨_, rfl, cuesD ds, cuesD ds, hX2.dp, (hds16.up (s17.trans s18)).dp, cuesD_shaped hdk.strs, cuesD_shaped hdk.strs, _, rfl, ?_⟩⟩
        rw [cuesD_eqv, decide_eq_true rfl]
        refine iteF ?_
        have sall := s1416.trans (s17.trans s18)
        exact ⟨_, _, _, _, _, rfl, x1214.trans (sameX_of sall), (b14.up sall).mono (by omega)⟩
      · rintro σ' Hj ⟨q9, q10, q11, q12, q13, rfl, xj, bj⟩
        have hsh13 := hsh12.upX b12 xj
        have okn : CuesOk [] := ⟨.nil, by simp, by simp, by simp⟩
        refine ⟨_, rfl, Nat.zero_le _, fun e ge => ?_⟩
        have se := AT.Same.up (o := .lst []) ge
        refine mk_sheetR (shIn_of upd_same .nil (by simp) (by simp) (.inr ⟨.nil, .inr ⟨by decide, fun p2 H14 s14 g2 hs2 => ?_⟩⟩))
        have s1314 := se.trans s14
        have hsh14 := hsh13.up s1314
        have eapp : cs' ++ ([] : List Cue).map (atC "start" "a") = cs' := by rw [List.map_nil, List.append_nil]
        refine ⟨_, _, _, _, rfl, .inr ⟨sh, cs', rfl, hsh14, .inr ⟨p2, [], rfl, ⟨hs2, okn, by decide⟩, .str _, .inr ⟨"start", rfl, List.mem_cons_self, .str _, (fun z q => by cases q; decide), .inr ⟨"a", rfl, (by decide +kernel), .inr ⟨by simp, by simpa using (by omega : cs'.length < 30), .inr ⟨by rw [eapp]; exact mom', fun p3 H15 s15 g3 hs3 => ?_⟩⟩⟩⟩⟩⟩⟩
        rw [eapp] at hs3
        have hsh15 := hsh14.up s15
        obtain ⟨dxb, fsb, lmb, msb, hb1, _⟩ := hs3.at
        refine ⟨_, rfl, p3, dxb, fsb, rfl, hb1, hsh15.ofTy T, p3, sh, cs', cs', rfl, hs3, hsh15, fun H16 s16 => ⟨_, rfl, false, congrArg V.bl (congrArg (fun b => !b) (decide_eq_true rfl)), iteF ?_⟩⟩
        refine ⟨_, _, _, _, _, _, _, _, _, _, _, _, rfl, fun b o e => ?_⟩
        exact s16 _ _ (s15 _ _ (s1314 _ _ (xj _ _ (pv0 (s1 _ _ e)) (sX12 _ _ (s1 _ _ e)))))
    · rintro σ' H' ⟨o1, o2, o3, o4, o5, o7, o8, o9, o10, o11, o12, o13, rfl, s1⟩
      show spStR [] H' (fun v H2 => Q v H2) E0
      exact ⟨rfl, fun H2 s2 => k _⟩
end
end K34

set_option maxHeartbeats 0
open PySem PySem.W PySem.Calls PyProof.Rows
theorem PySem.Challenge.cw_anytempo_k34_sheets_turned_and_joined_holds : PySem.Challenge.rw_anytempo_k34_sheets_turned_and_joined.Holds := by
  w_on; o_law
  refine HandSHeadRun.head_any (r := OpenLaw.row PySem.Challenge.rw_anytempo_k34_sheets_turned_and_joined) (q := view (OpenLaw.row PySem.Challenge.rw_anytempo_k34_sheets_turned_and_joined).prog [K34.lawAt]) (H := K34.hk) (ob := K34.ob) (M := 20000) (loose := K34.names) (d := HandSHeadRun.topDef (OpenLaw.row PySem.Challenge.rw_anytempo_k34_sheets_turned_and_joined).prog K34.lawAt) (kwd := []) K34.ob_eq
    (by kernel_rfl) (fun s => by kernel_rfl) K34.run (by kernel_rfl) (by kernel_rfl) (by kernel_rfl) (by rfl) (by first | assumption | decide +kernel) (by decide +kernel) ⟨rfl, rfl, rfl, rfl, rfl, by decide +kernel⟩ ?hw ?hc
  case hw => w_witness2
  case hc =>
    refine AT.walkO (l := PySem.Challenge.rw_anytempo_k34_sheets_turned_and_joined) (n := 63) (k := 18) (x := "_law_script") (CX := fun w => L2.CX PySem.Challenge.rw_anytempo_k34_sheets_turned_and_joined.prog w) rfl (by decide) (by kernel_rfl) ⟨rfl, by decide, by decide⟩ ?F (fun w H s e s' z => AT.cx_false z)
    intro w mg fa h Y G hmg0
    obtain ⟨K, KX, c⟩ := Y
    have e : (HandSHeadRun.topDef (OpenLaw.row PySem.Challenge.rw_anytempo_k34_sheets_turned_and_joined).prog K34.lawAt).name = ("law" : PySem.Str) := by kernel_rfl
    rw [e] at hmg0
    have T : K34.Tx K mg h := ⟨c, KX, G⟩
    have e2 := hmg0.symm.trans T.g_law
    cases e2
    refine ⟨K, K34.spLaw K, KX, fun H a ns hl _ hS => ⟨a, ns, rfl, hS, fun _ => rfl⟩, fun base kb gb => ?_⟩
    obtain ⟨fd, hF, hb, _⟩ := K34.ok_law (P := PySem.Challenge.rw_anytempo_k34_sheets_turned_and_joined.prog) (w := w) ⟨c, kb, gb⟩
    exact ⟨fd, hF, hb⟩

