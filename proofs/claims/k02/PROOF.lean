import PyProof.Rows.All
import Wide.All
import OpenK.AllK
import Wide.FinOn
import PyProof.ReprRoads
import HandS.ForMost
import HandS.ForExc
import HandS.ExcInit
import HandS.ExcField
import HandS.ExcIs
import HandS.TryMany
import HandS.IsInst
import HandS.Defaults
import HandS.Property
import HandS.Wide
import HandS.FStr
import HandS.StrMore
import HandS.Steps
import HandS.CallSlots
import HandS.Head0
import HandS.Head1
import HandS.Head2
import HandS.HeadEnd
import HandS.HeadHook1
import HandS.HeadHook2
import HandS.ClsMeth
import HandS.Comp
import PyProof.CompUse
import HandS.Walk
import KE.KOpsOwn
import HandS.OwnEq
import PyProof.NeKinds
import HandS.Star
import KE.GoesMore
import HandS.Zip
import HandS.Evl
import HandS.DictComp
import HandS.Deep
import HandS.TupAny
import HandS.Rev
import HandS.Iter
import PyProof.ListRange
import PyProof.ExcBaseAll.LookupError
import PyProof.StrBlock2
import KE.DataFind
import KE.IntTextLaws
import PySem.Challenge.RW_anytempo_k02_amounts_reckoned
set_option Elab.async false
set_option linter.all false
set_option maxRecDepth 100000
set_option maxHeartbeats 4000000
namespace AT
open PySem PySem.Spec PyProof.Rows L2
/-! ### the hook: facts of what the top leaves -/
def asA (g : Addr → Option Obj) : Nat → List Addr
  | 0 => [mainGlobals, cStatics]
  | n + 1 => He.growD g (asA g n)
/-- one def: where it stands, its name, qualified name, parameters, body, scope, defaults, keyword-only defaults -/
structure FD where
  loc : PySem.W.Frag → Addr
  name : Str
  qual : Str
  params : Arguments
  body : List Stmt
  scope : Scope
  dfl : List He.Dv := []
  kwd : List (Str × He.Dv) := []
def fdOf (loc : PySem.W.Frag → Addr) (name qual : Str) (st : Stmt) (dfl : List He.Dv := []) (kwd : List (Str × He.Dv) := []) : FD := ⟨loc, name, qual, defArgs st, defBody st, defScope st, dfl, kwd⟩
def fobs (K : PySem.W.Frag) (a : Addr) : He.FnW := match K.lookup a with
  | some ⟨_, _, .func u, _⟩ => some (u.name, u.qualname, u.params, u.body, u.scope, u.globals, u.closure, u.builtins)
  | _ => none
def FD.val (d : FD) : He.FnW := some (d.name, d.qual, d.params, .stmts d.body, d.scope, mainGlobals, [], builtinsNs)
def FD.dvs (K : PySem.W.Frag) (d : FD) : List V := d.dfl.map (He.Dv.v K)
def FD.kws (K : PySem.W.Frag) (d : FD) : List (Str × V) := d.kwd.map fun z => (z.1, z.2.v K)
def FD.ok (K : PySem.W.Frag) (d : FD) : Bool := PySem.W.keepIn K (.ref (d.loc K)) && (match K.lookup (d.loc K) with
  | some ⟨_, _, .func u, _⟩ => PySem.W.codeIn K u.code d.qual && (He.dflB K u.defaults (d.dvs K) && He.kwdB K u.kwdefaults (d.kws K))
  | _ => false)
theorem FD.funD {K : PySem.W.Frag} {d : FD} (e : fobs K (d.loc K) = d.val) (c : d.ok K = true) : ∃ fd, FunD K d.name d.qual d.params d.body d.scope (d.dvs K) (d.kws K) (d.loc K) fd := by
  obtain ⟨kp, c2⟩ := He.ba c
  unfold fobs at e
  cases hl : K.lookup (d.loc K) with
  | none =>
    rw [hl] at c2
    cases c2
  | some o =>
    obtain ⟨oc, od, dt, osl⟩ := o
    rw [hl] at c2 e
    cases dt with
    | func u =>
      obtain ⟨u1, u2, u3, u4, u5, u6, u7, u8, u9, u10, u11, u12, u13, u14, u15⟩ := u
      have e2 : (some (u1, u2, u3, u4, u5, u6, u7, u15) : He.FnW) = some (d.name, d.qual, d.params, .stmts d.body, d.scope, mainGlobals, [], builtinsNs) := e
      simp only [Option.some.injEq, Prod.mk.injEq] at e2
      obtain ⟨rfl, rfl, rfl, rfl, rfl, rfl, rfl, rfl⟩ := e2
      obtain ⟨k1, k2⟩ := He.ba (show (PySem.W.codeIn K u13 d.qual && (He.dflB K u8 (d.dvs K) && He.kwdB K u9 (d.kws K))) = true from c2)
      obtain ⟨k3, k4⟩ := He.ba k2
      exact ⟨_, ⟨oc, od, u8, u9, u10, u11, u12, u13, u14, osl, rfl, hl, k1, He.dflB_ok k3, He.kwdB_ok k4⟩, kp⟩
    | _ => cases c2
/-- the getter of a property of the class x -/
def propAt (x f : Str) (K : PySem.W.Frag) : Addr := match PySem.W.findIn K (.ref (He.ga K x)) f with
  | some (some (.ref p)) => (match PySem.W.recIn K p "property" with
    | some (.ref g :: _) => g
    | _ => 0)
  | _ => 0
abbrev AlA : Type := Bool × List He.FnW
abbrev Ex := List (PySem.W.Frag → Bool)
def obsA (fn : List FD) (ex : Ex) (K : PySem.W.Frag) : AlA :=
  (ex.all (fun e => e K) && fn.all (fun d => d.ok K), fn.map fun d => fobs K (d.loc K))
def valA (fn : List FD) : AlA := (true, fn.map FD.val)
def SaysA (fn : List FD) (ex : Ex) (K : PySem.W.Frag) : Prop := obsA fn ex K = valA fn
def obsAG (n : Nat) (fn : List FD) (ex : Ex) (g : Addr → Option Obj) : AlA := obsA fn ex (He.frG g (sysModules :: asA g n))
def hookA (n : Nat) (fn : List FD) (ex : Ex) : PySem.W.Hook where
  α := AlA
  obs := fun s => obsAG n fn ex s.heap.get?
  val := fun _ => valA fn
  says := fun _ h => ∃ K : PySem.W.Frag, K.In h ∧ SaysA fn ex K
  of := fun _ _ e => ⟨_, He.frG_in, e⟩
  keeps := fun _ _ _ ⟨K, hK, c⟩ k => ⟨K, PySem.W.Frag.In.keeps hK k, c⟩
theorem obsAG_eq {n : Nat} {fn : List FD} {ex : Ex} {g : Addr → Option Obj} {s : Shared} (h : ∀ a, g a = s.heap.get? a) : obsAG n fn ex g = (hookA n fn ex).obs s := by
  have q : g = s.heap.get? := funext h
  subst q
  rfl
section
variable {fn : List FD} {ex : Ex} {K : PySem.W.Frag}
theorem SaysA.more (c : SaysA fn ex K) (i : Nat) {e : PySem.W.Frag → Bool} (h : ex[i]? = some e := by rfl) : e K = true :=
  List.all_eq_true.mp (He.ba (congrArg (fun z : AlA => z.1) c)).1 e (List.mem_of_getElem? h)
theorem SaysA.fun_ (c : SaysA fn ex K) (i : Nat) {d : FD} (h : fn[i]? = some d := by rfl) : ∃ fd, FunD K d.name d.qual d.params d.body d.scope (d.dvs K) (d.kws K) (d.loc K) fd := by
  have c2 := (He.ba (show (ex.all (fun e => e K) && fn.all (fun d => d.ok K)) = true from congrArg (fun z : AlA => z.1) c)).2
  have e2 : (fn.map fun d => fobs K (d.loc K))[i]? = (fn.map FD.val)[i]? := congrArg (fun z : AlA => z.2[i]?) c
  rw [List.getElem?_map, List.getElem?_map, h] at e2
  exact FD.funD (Option.some.inj e2) (List.all_eq_true.mp c2 d (List.mem_of_getElem? h))
end
/-! ### facts of the module's names -/
def gloB (x : Str) (K : PySem.W.Frag) : Bool := He.eqO (PySem.W.nsIn K mainGlobals x) (some (some (.ref (He.ga K x))))
def freeB (x : Str) (K : PySem.W.Frag) : Bool := He.eqO (PySem.W.nsIn K mainGlobals x) (some none)
def conB (x : Str) (v : V) (K : PySem.W.Frag) : Bool := match PySem.W.nsIn K mainGlobals x with
  | some (some u) => He.relB v u
  | _ => false
theorem conB_ok {K : PySem.W.Frag} {h : Heap} {mg : Str → Option Value} {x : Str} {v : V} (X : K.In h) (G : h.Ns mainGlobals mg) (c : conB x v K = true) : ∃ u, mg x = some u ∧ RelV v u := by
  unfold conB at c
  split at c
  · rename_i u hu
    exact ⟨u, PySem.W.mg_of X G hu, He.relB_ok c⟩
  · cases c
def clsB (x : Str) (K : PySem.W.Frag) : Bool := (He.Fa.cls x).ok K
def noatB (x f : Str) (K : PySem.W.Frag) : Bool := (He.Fa.noat x f).ok K
def methB (x f : Str) (K : PySem.W.Frag) : Bool := (He.Fa.meth x f).ok K
def mkrB (x : Str) (K : PySem.W.Frag) : Bool := (He.Fa.mkr x).ok K
def exmB (x y : Str) (b : Bool) (K : PySem.W.Frag) : Bool := (He.Fa.exm x y b).ok K
def lstB (x : Str) (vs : List He.Dv) (K : PySem.W.Frag) : Bool := He.lstB K x vs
/-- a property of the class x: PropOf -/
def propB (x f : Str) (K : PySem.W.Frag) : Bool := match PySem.W.findIn K (.ref (He.ga K x)) f with
  | some (some (.ref p)) => He.eqO (PySem.W.specialIn K (.ref p) "__get__") (some (some (.builtin "property.__get__"))) && (decide (PySem.W.takesIn K (.ref p) = some true) && (match PySem.W.recIn K p "property" with
    | some (.ref _ :: _) => true
    | _ => false))
  | _ => false
theorem propB_ok {K : PySem.W.Frag} {x f : Str} (h : propB x f K = true) : ∃ p, PropOf K (He.ga K x) f p (propAt x f K) := by
  unfold propB at h
  split at h
  · rename_i p hp
    obtain ⟨h1, h⟩ := He.ba h
    obtain ⟨h2, h3⟩ := He.ba h
    split at h3
    · rename_i g rest hr
      have e : propAt x f K = g := by
        unfold propAt
        rw [hp]
        simp only [hr]
      exact ⟨p, hp, He.eqO_ok h1, of_decide_eq_true h2, rest, by rw [e]; exact hr⟩
    · cases h3
  · cases h
/-- isinstance of instances of the own class x -/
def insB (x : Str) (K : PySem.W.Frag) : Bool := He.eqO (PySem.W.findIn K (.ref (He.ga K x)) "__class__") (some (some (.builtin "object.__class__"))) &&
  (He.eqO (PySem.W.specialIn K (.builtin "object.__class__") "__get__") (some (some (.builtin "getset_descriptor.__get__"))) &&
  (decide (PySem.W.takesIn K (.builtin "object.__class__") = some true) && decide (PySem.W.mroIn K (He.ga K x) (.type "object") = some true)))
theorem insB_ok {K : PySem.W.Frag} {x : Str} (h : insB x K = true) (c : Cls K (He.ga K x)) {H : Hp} {a dx : Addr} {fs : List (Str × V)} (e : H a = some (.ins (He.ga K x) dx fs)) : TyX K H (.ref a) (.ref (He.ga K x)) := by
  obtain ⟨h1, h⟩ := He.ba h
  obtain ⟨h2, h⟩ := He.ba h
  obtain ⟨h3, h4⟩ := He.ba h
  exact .base (.ins e c (He.eqO_ok h1) (He.eqO_ok h2) (of_decide_eq_true h3) (of_decide_eq_true h4))
/-- isinstance of a value of the type t (built-in, by name; "" : the own class x) with the class c -/
def kitB (t : PySem.W.Frag → Value) (c : PySem.W.Frag → Value) (b : Bool) (K : PySem.W.Frag) : Bool := decide (PySem.W.kitOne K (t K) (c K) = some b)
theorem kitB_ok {K : PySem.W.Frag} {t c : PySem.W.Frag → Value} {b : Bool} (h : kitB t c b K = true) : PySem.W.kitOne K (t K) (c K) = some b := of_decide_eq_true h
/-- sys.modules stands in the part that is looked at -/
def sysB (K : PySem.W.Frag) : Bool := match K.lookup sysModules with
  | some ⟨.type c, _, _, _⟩ => decide (c = "dict")
  | _ => false
theorem sysB_ok {K : PySem.W.Frag} (h : sysB K = true) : ∃ o, K.lookup sysModules = some o ∧ o.cls = .type "dict" := by
  unfold sysB at h
  split at h
  · rename_i c dd dt sl ho
    exact ⟨_, ho, congrArg Value.type (of_decide_eq_true h)⟩
  · cases h
/-! ### exception classes: what is looked at -/
/-- an own class over ValueError with its own __init__, with the base class at B of the package -/
def excB (K : PySem.W.Frag) (C : Addr) : Bool := match K.lookup C with
  | some ⟨.type t, _, .cls cd, sl⟩ => (match cd.mro, sl.toList with
    | .ref D :: bm, [_, _, _, _, some (.builtin n), _] => decide (t = "type") && (decide (D = C) && (decide (n = "ValueError.__new__") && (!cd.hasDel && (cd.hasDict && HandSPX.refsVE bm))))
    | _, _ => false)
  | _ => false
theorem excB_ok {K : PySem.W.Frag} {C : Addr} (h : excB K C = true) :
    ∃ nm q N bs bm sn sub ab col dd k0 k1 k2 k3 k5, K.lookup C = some (excClassObj nm q C N bs bm true sn sub ab col dd k0 k1 k2 k3 k5 "ValueError.__new__") ∧ PySem.HandSPX.refsVE bm = true := by
  unfold excB at h
  split at h
  · rename_i t dd cd sl ho
    split at h
    · rename_i D bm k0 k1 k2 k3 n k5 hm hs
      simp only [Bool.and_eq_true, decide_eq_true_eq, Bool.not_eq_true'] at h
      obtain ⟨rfl, rfl, rfl, hdel, hdic, ht⟩ := h
      obtain ⟨nm, bs, mro, ns, qn, hd, sn, sub, ab, col, del⟩ := cd
      dsimp only at hm hdel hdic
      subst hm hdel hdic
      have hsl : sl = #[k0, k1, k2, k3, some (.builtin "ValueError.__new__"), k5] := by
        obtain ⟨l⟩ := sl
        simp only at hs
        rw [hs]
      subst hsl
      exact ⟨nm, qn, ns, bs, bm, sn, sub, ab, col, dd, k0, k1, k2, k3, k5, ho, ht⟩
    · cases h
  · cases h
/-- all that is asked of an exception class x with the field f -/
def xcB (K : PySem.W.Frag) (x f : Str) : Bool :=
  excB K (He.ga K x) && (He.eqO (PySem.W.findIn K (.ref (He.ga K x)) "__setattr__") (some (some (.builtin "object.__setattr__"))) &&
  (decide (PySem.W.subIn K (.ref (He.ga K x)) (.type "BaseException") = some true) && (decide (PySem.W.typeIn K (.ref (He.ga K x)) = some (.type "type")) &&
  (PySem.W.keepIn K (.ref (He.ga K x)) && (He.eqO (PySem.W.findIn K (.ref (He.ga K x)) f) (some none) && (xfB K (He.ga K x) &&
  (He.eqO (PySem.W.findIn K (.ref (He.ga K x)) "__init__") (some (some (.ref (He.ma K (He.ga K x) "__init__")))) &&
  (decide (PySem.W.typeIn K (.ref (He.ma K (He.ga K x) "__init__")) = some (.type "function")) &&
  He.eqO (PySem.W.nsIn K mainGlobals x) (some (some (.ref (He.ga K x)))))))))))) 
structure Xc (K : PySem.W.Frag) (x f : Str) : Prop where
  oex : OexC K (He.ga K x)
  xf : XfC K (He.ga K x)
  no : PySem.W.findIn K (.ref (He.ga K x)) f = some none
  ini : PySem.W.findIn K (.ref (He.ga K x)) "__init__" = some (some (.ref (He.ma K (He.ga K x) "__init__")))
  tyi : PySem.W.typeIn K (.ref (He.ma K (He.ga K x) "__init__")) = some (.type "function")
  glo : PySem.W.nsIn K mainGlobals x = some (some (.ref (He.ga K x)))
theorem xcB_ok {K : PySem.W.Frag} {x f : Str} (h : xcB K x f = true) : Xc K x f := by
  obtain ⟨h1, h⟩ := He.ba h
  obtain ⟨h2, h⟩ := He.ba h
  obtain ⟨h3, h⟩ := He.ba h
  obtain ⟨h4, h⟩ := He.ba h
  obtain ⟨h5, h⟩ := He.ba h
  obtain ⟨h6, h⟩ := He.ba h
  obtain ⟨h7, h⟩ := He.ba h
  obtain ⟨h8, h⟩ := He.ba h
  obtain ⟨h9, h10⟩ := He.ba h
  exact ⟨⟨excB_ok h1, He.eqO_ok h2, of_decide_eq_true h3, of_decide_eq_true h4, h5⟩, xfB_ok h7, He.eqO_ok h6, He.eqO_ok h8, of_decide_eq_true h9, He.eqO_ok h10⟩
def valB (c : Option PySem.W.CFound) (u : Value) : Bool := match c with
  | some (.val v) => decide (v = u)
  | _ => false
theorem valB_ok {c : Option PySem.W.CFound} {u : Value} (h : valB c u = true) : c = some (.val u) := by
  unfold valB at h
  split at h
  · rw [of_decide_eq_true h]
  · cases h
/-- the base class of the package: B.__init__ is ValueError's -/
def baB (K : PySem.W.Frag) (B : Str) : Bool :=
  PySem.W.readsIn K (He.ga K B) (.type "type") && (He.eqO (PySem.W.specialIn K (.ref (He.ga K B)) "__getattribute__") (some (some (.builtin "type.__getattribute__"))) &&
  (valB (PySem.W.findCls K (.ref (He.ga K B)) (.type "type") "__init__") (.builtin "ValueError.__init__") &&
  He.eqO (PySem.W.nsIn K mainGlobals B) (some (some (.ref (He.ga K B))))))
structure Ba (K : PySem.W.Frag) (B : Str) : Prop where
  rd : PySem.W.readsIn K (He.ga K B) (.type "type") = true
  ga : PySem.W.specialIn K (.ref (He.ga K B)) "__getattribute__" = some (some (.builtin "type.__getattribute__"))
  ini : PySem.W.findCls K (.ref (He.ga K B)) (.type "type") "__init__" = some (.val (.builtin "ValueError.__init__"))
  glo : PySem.W.nsIn K mainGlobals B = some (some (.ref (He.ga K B)))
theorem baB_ok {K : PySem.W.Frag} {B : Str} (h : baB K B = true) : Ba K B := by
  obtain ⟨h1, h⟩ := He.ba h
  obtain ⟨h2, h⟩ := He.ba h
  obtain ⟨h3, h4⟩ := He.ba h
  exact ⟨h1, He.eqO_ok h2, valB_ok h3, He.eqO_ok h4⟩
end AT

set_option maxHeartbeats 4000000
namespace AT
open PySem PySem.Spec PyProof.Rows L2
section
variable {X : Cx} {e : Expr} {es : List Expr} {ta : TA} {B : Str} {p1 p2 pos : Pos}
/-- B.__init__(self, ..), B an own class over ValueError -/
theorem pe_cinit {look : Sem Bool} (T : Ba X.K B) (hB : Gl X B) (hmB : X.mg B = some (.ref (He.ga X.K B))) (hA : PA X (e :: es) ta)
    (hev : eval (.Call (.Attribute (.Name B p1) "__init__" p2) (e :: es) [] pos) X.env = (do
      let cv ← eval (.Name B p1) X.env
      standAt p2.atName
      let (fv, frst) ← holding [cv] (getMethod cv "__init__" look)
      callWith pos fv frst (backTo pos (starEach (e :: es) X.env)) (backToKw pos (keywordEach [] X.env))) := by rfl)
    (hdb : (B == ("__debug__" : Str)) = false := by decide)
    (hst : starEach (e :: es) X.env = (false, eval e X.env) :: starEach es X.env := by rfl) (hns : (backTo pos (starEach es X.env)).any (·.1) = false := by rfl) :
    PE X (.Call (.Attribute (.Name B p1) "__init__" p2) (e :: es) [] pos) (tVeI X.K ta) := by
  constructor
  intro pins s σ H Q I h
  refine PySem.W.methodCall_KW (ld_glob I hB hmB ?_ hdb) hev
  refine PySem.W.method_cls I.kIn T.ga (PySem.W.cls_value I.kIn T.rd T.ini (by decide +kernel) ?_)
  show wpAny _ _ (callWith pos (Value.builtin "ValueError.__init__") [] (backTo pos (starEach (e :: es) X.env)) []) _ _ _
  refine PyProof.Rows.callWith_method1 (thn (hA.run pos pins _ σ H _ (I.tok _) h) fun vals s1 ⟨vs, H1, I1, r1, a, C, ws, ev, hl, To, ea, q⟩ => ?_) hst hns
  subst ev
  cases r1 with
  | @cons _ v0 _ vr ra rr =>
    obtain rfl : v0 = Value.ref a := ra
    refine oinit_ok To I1 ea ?_ fun s' J => ⟨.non, H1, J, rfl, q⟩
    rw [← Paired.length rr, sizeLine_eq]
    omega
end
/-- what an exception's own __init__(self, f) promises -/
def spXi (K : PySem.W.Frag) (C : Addr) (f : Str) : Sp := fun vs H Q _ => ∃ (a : Addr) (v : V), vs = [.ref a, v] ∧ OexC K C ∧ PySem.W.findIn K (.ref C) f = some none ∧ H a = some (exo a C none) ∧
  ∀ d, H d = none → d ≠ a → Q .non (upd (upd H d (exd d [(f, v)])) a (exo a C (some d)))
/-- its body's reading -/
theorem xi_reading {K : PySem.W.Frag} {C : Addr} {f : Str} {t : Str} {N : List Str} (hN : N = [("self" : Str), f]) (vs : List V) (H : Hp) (Q : VK) (E : XK) (h : spXi K C f vs H Q E) :
    tSeq (tDrop (tVeI K (tCons (tVar 0) (tCons (tC (.str t)) tNil)))) (tOst K f (tVar 0) (tVar 1)) { nx := fun _ H' => Q .non H', rt := Q } (start N vs) H := by
  obtain ⟨a, v, rfl, T, no, ha, k⟩ := h
  subst hN
  refine ⟨_, rfl, a, C, [.str t], rfl, (by show 1 ≤ 1000; decide), T, ha, _, rfl, _, rfl, a, C, rfl, T, no, .inl ⟨ha, k⟩⟩
/-- X(e) -/
abbrev tMk1 (K : PySem.W.Frag) (C : Addr) (f : Str) (te : TE) : L2.St → Hp → XK → Prop := tMkO C (spXi K C f) [] (tCons te tNil)
/-- an exception class x with the field f may be made in X -/
structure MkX (X : Cx) (x f : Str) : Prop where
  run : ∀ {e : Expr} {te : TE} {p pos : Pos}, Gl X x → PE X e te → starEach [e] X.env = (false, eval e X.env) :: starEach [] X.env → PMk X (.Call (.Name x p) [e] [] pos) (tMk1 X.K (He.ga X.K x) f te)
theorem heap_back {H1 : Hp} {a d C : Addr} {fs : List (Str × V)} {o : HO} (ha : H1 a = none) (hd : d ≠ a) :
    upd (del (upd (upd (upd H1 a (exo a C none)) d o) a (exo a C (some d))) a) d (.xd fs) = upd H1 d (.xd fs) := by
  funext b
  by_cases h1 : b = d
  · subst h1
    rw [upd_same, upd_same]
  · rw [upd_ne h1, upd_ne h1]
    by_cases h2 : b = a
    · subst h2
      rw [del_same, ha]
    · rw [del_ne h2, upd_ne h2, upd_ne h1, upd_ne h2]
/-- behind e's value: what the raise asks -/
theorem mk_at {K : PySem.W.Frag} {C : Addr} {f : Str} {v : V} {H1 : Hp} {Q : XK} (T : OexC K C) (no : PySem.W.findIn K (.ref C) f = some none) (k : ∀ d, H1 d = none → Q (.ref C) (some d) (upd H1 d (.xd [(f, v)]))) :
    [v].length ≤ 1000 ∧ ∀ a, H1 a = none → spXi K C f (.ref a :: ([v] ++ [])) (upd H1 a (exo a C none))
      (fun r H2 => r = .non ∧ ∃ (d : Addr) (fs : List (Str × V)), H2 a = some (exo a C (some d)) ∧ H2 d = some (exd d fs) ∧ H1 d = none ∧ Q (.ref C) (some d) (upd (del H2 a) d (.xd fs))) (fun _ _ _ => False) := by
  refine ⟨(by show 1 ≤ 1000; decide), fun a ha => ⟨a, v, rfl, T, no, upd_same, fun d hd hda => ?_⟩⟩
  have hd1 : H1 d = none := by rw [upd_ne hda] at hd; exact hd
  refine ⟨rfl, d, [(f, v)], upd_same, ?_, hd1, ?_⟩
  · rw [upd_ne hda, upd_same]
  · rw [heap_back ha hda]
    exact k d hd1
theorem mkX_of {X : Cx} {x f : Str} {k : Nat} {fd : FuncData} (T : Xc X.K x f) (hm : X.mg x = some (.ref (He.ga X.K x))) (F : FnOk X.prog X.w X.K X.mg X.base (L2.CX X.prog X.w) k (He.ma X.K (He.ga X.K x) "__init__") fd [("self" : Str), f] (spXi X.K (He.ga X.K x) f))
    (hb : Binds X.K fd [("self" : Str), f] []) (hr : Room (k + 1) X.A) (hdb : (x == ("__debug__" : Str)) = false := by decide) : MkX X x f := by
  refine ⟨fun {e te p pos} hg he hst => ?_⟩
  exact pmk_oex T.oex T.ini T.tyi F hr hb .nil passL hg hm (pa_cons he pa_nil hst) hdb hst rfl
/-- raise X(e) -/
theorem ps_rs {X : Cx} {x f : Str} {W : WX} {e : Expr} {te : TE} {p pos pos2 : Pos} (hc : X.calm = true) (M : MkX X x f) (tk : Takes X W) (hg : Gl X x) (he : PE X e te) (hst : starEach [e] X.env = (false, eval e X.env) :: starEach [] X.env := by rfl) :
    PS X (.Raise (some (.Call (.Name x p) [e] [] pos)) none pos2) (fun _ σ H => tMk1 X.K (He.ga X.K x) f te σ H fun cls d H' => W cls d σ H') := ps_raise hc tk (M.run hg he hst)
end AT

set_option maxHeartbeats 4000000
namespace AT
open PySem PySem.Spec PyProof.Rows L2
/-- a clause: the class, the name's slot, the suite's reading -/
abbrev Cla := Value × Nat × (Addr → Value → Option Addr → TS)
def wMas (K : PySem.W.Frag) (Wo : WX) (D : Ends) : List Cla → WX
  | [] => Wo
  | (c, i, ts) :: r => fun cls d σ H => ∃ b, PySem.W.exmOne K cls c = some b ∧
      (b = true → ∀ a, H a = none → ts a cls d { nx := fun σ' H' => D.nx (σ'.set i none) H', rt := D.rt, bk := fun σ' H' => D.bk (σ'.set i none) H', ct := fun σ' H' => D.ct (σ'.set i none) H' } (σ.set i (some (.ref a))) H) ∧
      (b = false → wMas K Wo D r cls d σ H)
inductive HdsAs (X : Cx) : List ExceptHandler → List Cla → Prop
  | nil : HdsAs X [] []
  | cons {x n : Str} {c : Value} {i : Nat} {ts : Addr → Value → Option Addr → TS} {s1 : Stmt} {ss : List Stmt} {q1 q2 : Pos} {hds : List ExceptHandler} {l : List Cla} (hN : X.N.Nodup) (hi : X.N[i]? = some n) (hl : X.env.kindOf n = some .local) (hc : Names X x c)
      (hsu : ∀ (a : Addr) (oe : Obj) (cls : Value) (d : Option Addr) (pn : List (Addr × Obj)), Zc cls d oe → (∃ vs, oe.data = .fields vs) → PSs (X.suite a ((a, oe) :: pn)) (s1 :: ss) (ts a cls d)) (r : HdsAs X hds l) :
      HdsAs X (.ExceptHandler (some (.Name x q1)) (some n) (s1 :: ss) q2 :: hds) ((c, i, ts) :: l)
section
variable {X : Cx} {bd : List Stmt} {hd0 : ExceptHandler} {hds : List ExceptHandler} {l : List Cla} {pos : Pos} {tb : WX → TS} {Wo : WX}
theorem ps_try_mas (stk : X.stack = X.env :: X.outer) (frm : X.env.frame = some X.env.locals) (tkn : Takes X Wo)
    (hbd : ∀ (W : WX) (pn : List (Addr × Obj)) (xe : Value → Shared → Prop), Takes (X.tr pn xe) W → PassesOwn (model X.prog X.w) X.A X.env xe → PSs (X.tr pn xe) bd (tb W))
    (hhs : HdsAs X (hd0 :: hds) l) : PS X (.Try bd (hd0 :: hds) [] [] pos) (fun D σ H => tb (wMas X.K Wo D l) D σ H) := by
  constructor
  intro pins s σ H D I h
  have oki := I.ok
  have frs2 : X.A.frames = some (X.env :: X.outer) := by rw [oki.frames, stk]
  refine wpAny_Try_except ?_
  refine wpAny_mono ((hbd (wMas X.K Wo D l) (X.pn ++ pins) (fun ev t1 => wpAny (model X.prog X.w) X.A (noteFrame ev X.env) (fun _ t2 => wpAny (model X.prog X.w) X.A (setFlight ev none) (fun _ t3 =>
    wpAny (model X.prog X.w) X.A (handleBy ev X.env (hd0 :: hds)) (SP X pins D) X.xe t3) X.xe t2) X.xe t1) (fun u t xx => ?_) PassesOwn.looking).run [] s σ H D (I.toTry _) h) (fun fl t1 hfl => ?_) (fun _ _ z => z)
  · obtain ⟨a, G, tI, pp, σ1, H1, cls, d, rfl, Jt, nbh, upI, sk, na, eos, abr, wsh⟩ := xx
    have J1 : Inv X pins σ1 H1 tI := Jt.ofTry oki
    have sk2 : Sky G (X.env :: X.outer) a (Zc cls d) X.env.locals t.heap := by rw [← stk]; exact sk
    show wpAny (model X.prog X.w) X.A (noteFrame (.ref a) X.env) _ _ _
    refine Sky.land Zc.steady frs2 frm sk2 fun g3 fy3 ut3 => ?_
    have J3 : Inv X pins σ1 H1 { t with heap := g3 } := J1.landed nbh fy3.1 (upI.trans ut3) eos abr
    obtain ⟨ox3, vx3, gx3, zx3, dx3⟩ := fy3.there
    have nofr : a ∉ frs (X.env :: X.outer) := fun hm => by
      obtain ⟨_, o', e', hnf⟩ := fy3.2.2.1.mem hm
      rw [gx3] at e'
      cases e'
      exact hnf _ dx3
    have neL : a ≠ X.env.locals := fun z => nofr (List.mem_filterMap.mpr ⟨X.env, List.mem_cons_self, by rw [frm, z]⟩)
    have neF : a ∉ X.fs := fun hm => by
      obtain ⟨ev, hev, q⟩ := List.mem_filterMap.mp hm
      exact nofr (List.mem_filterMap.mpr ⟨ev, List.mem_cons_of_mem _ hev, q⟩)
    have Sx := J3.suite gx3 dx3 na neL neF
    have run : ∀ {hs' : List ExceptHandler} {l' : List Cla}, HdsAs X hs' l' → wMas X.K Wo D l' cls d σ1 H1 →
        wpAny (model X.prog X.w) X.A (handleBy (.ref a) X.env hs') (SP X pins D) X.xe { t with heap := g3 } := by
      intro hs' l' hk
      induction hk with
      | nil =>
        intro ww
        refine wpAny_handleBy_nil ?_
        obtain ⟨_, _, _, ob, vb, Tb, oTb, tsb, gb, zb, db, b1, _⟩ := id fy3
        unfold PySem.passOn
        refine wpAny_bind (wpAny_field gb db b1 ?_)
        rw [if_neg (by simp)]
        have fin : wpAny (model X.prog X.w) X.A (setFlight (.ref a) X.env.frame) (fun _ t4 => wpAny (model X.prog X.w) X.A (throw (.ref a) : Sem Flow) (SP X pins D) X.xe t4) X.xe { t with heap := g3 } := by
          rw [frm]
          refine HandSPX.setFlight_upZ fy3 fun g4 hg4 ut4 => wpAny_throw (tkn _ _ ?_)
          exact ⟨a, G, tI, pins, σ1, H1, cls, d, rfl, J1, nbh, (upI.trans ut3).trans ut4, .inr (.inr (by rw [stk]; exact hg4)), na, eos, abr, ww⟩
        first
          | exact wpAny_bind (wpAny_pure (wpAny_bind fin))
          | exact wpAny_bind fin
      | @cons x n c i ts s1 ss q1 q2 hds2 l2 hN hi hl hc hsu r ih =>
        intro ww
        obtain ⟨b, hb1, yes, nay⟩ := ww
        refine wpAny_handleBy_cons (codeAny_handlers_test ?_) (by intro q; cases q)
        have LT : PySem.W.Looks (model X.prog X.w) g3 (typeOf (.ref a)) cls := fun _ _ _ _ k q => wpAny_typeOf_ref (k _ _ gx3) (by rw [zx3.1]; exact q)
        have LM := PySem.W.exm_one (M := model X.prog X.w) (J3.kIn) LT hb1
        have tst : ∀ {Q : Value → Shared → Prop} {E : Value → Shared → Prop}, Q c { t with heap := g3 } → wpAny (model X.prog X.w) (X.A.mark (some (.ref a))) (eval (.Name x q1) X.env) Q E { t with heap := g3 } := fun {Q E} q => by
          obtain ⟨hg, hdbg, hm | ⟨hm, hv, hnn⟩⟩ := hc
          · exact ld_glob (X := X.suite a ((a, ox3) :: (X.pn ++ pins))) Sx hg hm q hdbg
          · exact ld_blt (X := X.suite a ((a, ox3) :: (X.pn ++ pins))) Sx hg hm hv q hnn hdbg
        refine tst (LM.here ?_)
        cases b with
        | true =>
          refine codeAny_handlers_suite_as ?_
          refine HandSPX.lands_againZ fy3 fun g4 fy4 ut4 => ?_
          have J4 : Inv X pins σ1 H1 { t with heap := g4 } := J1.landed nbh fy4.1 ((upI.trans ut3).trans ut4) eos abr
          obtain ⟨ox4, vx4, gx4, zx4, dx4⟩ := fy4.there
          have Sy := J4.suite gx4 dx4 na neL neF
          refine store_ok (X := X.suite a ((a, ox4) :: (X.pn ++ pins))) (v := .ref a) Sy hN hi (.inl hl) rfl (fun t5 S5 => ?_) (.inr hl)
          refine wpAny_mono ((hsu a ox4 cls d (X.pn ++ pins) zx4 ⟨_, dx4⟩).run [] t5 _ H1 _ S5 (yes rfl a na)) (fun fl t6 hfl => ?_) (fun _ _ z => False.elim z)
          have gone : ∀ {σ6 : L2.St} {H6 : Hp} {Q : Shared → Prop}, Inv (X.suite a ((a, ox4) :: (X.pn ++ pins))) [] σ6 H6 t6 → (∀ t7, Inv X pins (σ6.set i none) H6 t7 → Q t7) →
              wpAny (model X.prog X.w) X.A (do bindName X.env n .none; unbindBehindTheSuite X.env n q2) (fun _ t7 => Q t7) X.xe t6 := fun {_ _ _} S6 hq => gone_ok (S6.unsuite oki) hN hi hl hq
          cases fl with
          | ret u =>
            obtain ⟨_, _, _, S6, rr, qq⟩ := hfl
            exact gone S6 fun _ J7 => ⟨_, _, _, J7, rr, qq⟩
          | _ =>
            obtain ⟨_, _, S6, qq⟩ := hfl
            exact gone S6 fun _ J7 => ⟨_, _, J7, qq⟩
        | false =>
          show wpAny _ X.A (handleBy (.ref a) X.env hds2) _ _ _
          exact ih (nay rfl)
    exact run hhs wsh
  · cases fl with
    | next =>
      obtain ⟨_, _, Jn, q⟩ := hfl
      exact wpAny_execs_nil ⟨_, _, Jn.ofTry oki, q⟩
    | ret u =>
      obtain ⟨_, _, _, Jn, rr, q⟩ := hfl
      exact ⟨_, _, _, Jn.ofTry oki, rr, q⟩
    | _ =>
      obtain ⟨_, _, Jn, q⟩ := hfl
      exact ⟨_, _, Jn.ofTry oki, q⟩
end
end AT

set_option maxHeartbeats 4000000
namespace AT
open PySem PySem.Spec PyProof.Rows L2
/-! ### defs that are called where no repr is under way -/
structure FnG (P : Program) (w : World) (K : PySem.W.Frag) (mg : Str → Option Value) (base : Heap) (CX : CXT) (k : Nat) (f : Addr) (fd : FuncData) (ps : List Str) (sp : Sp) : Prop where
  len : ∀ vs H Q E, sp vs H Q E → vs.length = ps.length
  run : ∀ (A : Around) (outer : List Env) (s : Shared) (H : Hp) (args : Args) (us : List Value) (vs : List V) (Q : VK) (E : XK), A.guards = some [] → Room k A → Env0 P w K mg base A outer s H → BindsTo s fd args (ps.zip us) → Vals vs us → sp vs H Q E →
    codeAny (model P w) A (.call (.ref f) args) (CR CX outer P w H s Q E) s
theorem okG {P : Program} {w : World} {K : PySem.W.Frag} {mg : Str → Option Value} {base : Heap} {x qual : Str} {params : Arguments} {body : List Stmt} {scope : Scope} {dvs : List V} {kws : List (Str × V)} {f : Addr} {fd : FuncData}
    {CX : CXT} {N ps : List Str} {k : Nat} {sp : Sp} (F : FunD K x qual params body scope dvs kws f fd) (S : FnScope N ps scope) (len : ∀ vs H Q E, sp vs H Q E → vs.length = ps.length)
    (hbody : ∀ (cdv : Value) (A : Around) (outer : List Env) (s : Shared) (H : Hp) (vs : List V) (Q : VK) (E : XK), A.guards = some [] → Room k (A.deeper (envOfC qual scope s.heap.objs.size f cdv)) → sp vs H Q E →
      ∃ t, PSs (cxOf CX P w K mg base N qual scope f cdv A outer s H E) body t ∧ t { nx := fun _ H' => Q .non H', rt := Q } (start N vs) H) : FnG P w K mg base CX (k + 1) f fd ps sp := by
  obtain ⟨oc, od, dV, kV, doc, pm, an, cdv, ct, osl, rfl, lk, hcd, _, _⟩ := F.ex
  refine ⟨len, fun A outer s H args us vs Q E hgd hr e0 hbd rv hsp => ?_⟩
  have KI : K.In s.heap := e0.mod.kin.keeps fun b o z => (e0.bs b o z).1
  have nl : s.heap.NoLimit := e0.mod.nolimit.keeps fun b o z => (e0.bs b o z).1
  have kinds : ∀ y ∈ ps.zip us, scope.names.lookup y.1 = some .local ∨ (scope.names.lookup y.1 = some .cell ∧ ((cellsFrom (s.heap.objs.size + 1) scope.names []).lookup y.1).isSome = true) := by
    rintro ⟨n, v⟩ hy
    exact (S.par n (List.of_mem_zip hy).1).imp id fun q => ⟨q, PySem.W.cellsFrom_some _ _ _ (.inl q)⟩
  refine codeAny_call_function hr.depth (KI _ _ lk) rfl S.co S.gen rfl (PySem.W.codeRec_of KI hcd) (hbd _ _ _ _ ?_)
  refine wpAny_newFunctionEnv_cells S.kind kinds fun env he s1 ic => ?_
  subst he
  refine ⟨nl.keeps ic.toInCall.keep, codeAny_func ?_⟩
  obtain ⟨t, ht, hq⟩ := hbody cdv A outer s H vs Q E hgd (hr.deeper _) hsp
  have I1 := inv_start (CX := CX) (E := E) S hr.hd e0 (len _ _ _ _ hsp) rv ic
  refine wpAny_mono (ht.run [] s1 (start N vs) H _ I1 hq) (fun fl s' hfl => ?_) fun _ _ z => z
  cases fl with
  | ret u =>
    obtain ⟨v, _, H', J, r2, q⟩ := hfl
    exact ⟨v, H', J.os, J.bare, J.base, J.hok, r2, q⟩
  | next =>
    obtain ⟨_, H', J, q⟩ := hfl
    exact ⟨V.non, H', J.os, J.bare, J.base, J.hok, rfl, q⟩
  | _ =>
    obtain ⟨_, _, _, q⟩ := hfl
    exact q.elim
section
variable {X : Cx} {CX : CXT} {k : Nat} {f : Addr} {fd : FuncData} {ps : List Str} {sp : Sp} {dvs : List V} {ds : List Value} {E : XK} {x : Str} {p pos : Pos} {e : Expr} {es : List Expr} {t : TA}
theorem run_g {pins : List (Addr × Obj)} {σ : L2.St} {H : Hp} {s : Shared} {Q : VK} {us : List Value} {vs : List V} (F : FnG X.prog X.w X.K X.mg X.base CX k f fd ps sp) (hgd : X.A.guards = some []) (hr : Room k X.A) (hb : Binds X.K fd ps ds) (hd : Vals dvs ds) (hx : Passes CX X E)
    (I : Inv X pins σ H s) (r : Vals vs us) (h : sp (vs ++ dvs) H Q E) : wpAny (model X.prog X.w) X.A (call (.ref f) us) (EP X pins σ Q) X.xe s := by
  have r2 : Vals (vs ++ dvs) (us ++ ds) := r.append hd
  have hlen : (us ++ ds).length = ps.length := r2.length.symm.trans (F.len _ _ _ _ h)
  refine wpAny_call (codeAny_mono (F.run X.A X.stack s H ⟨us, []⟩ (us ++ ds) (vs ++ dvs) Q E hgd hr I.env0 (hb s us I.kIn hlen) r2 h) fun res s' hq => ?_)
  cases res with
  | error er => exact hx pins σ H s er s' I hq
  | ok fl =>
    cases fl with
    | ret u => exact I.after hq
    | _ => exact False.elim hq
theorem pe_callG (F : FnG X.prog X.w X.K X.mg X.base CX k f fd ps sp) (hgd : X.A.guards = some []) (hr : Room k X.A) (hg : Gl X x) (hm : X.mg x = some (.ref f)) (hk : PySem.W.keepIn X.K (.ref f) = true) (hb : Binds X.K fd ps ds) (hd : Vals dvs ds) (hx : Passes CX X E)
    (ha : PA X (e :: es) t) (hdb : (x == ("__debug__" : Str)) = false := by decide) (hst : starEach (e :: es) X.env = (false, eval e X.env) :: starEach es X.env := by rfl) (hns : (backTo pos (starEach es X.env)).any (·.1) = false := by rfl) :
    PE X (.Call (.Name x p) (e :: es) [] pos) (tCall sp dvs E t) := by
  constructor
  intro pins s σ H Q I h
  refine wpAny_Call_Name_kw (ld_glob I hg hm ?_ hdb)
  refine PySem.W.callWith_K (h₀ := X.base) I.ok.mod.kin hk (thn (ha.run pos pins s σ H _ I h) fun us s1 hh => ?_) hst hns
  obtain ⟨vs, H1, I1, r, q⟩ := hh
  exact ⟨I1.kIn, run_g F hgd hr hb hd hx I1 r q⟩
theorem pe_callG0 (F : FnG X.prog X.w X.K X.mg X.base CX k f fd ps sp) (hgd : X.A.guards = some []) (hr : Room k X.A) (hg : Gl X x) (hm : X.mg x = some (.ref f)) (hk : PySem.W.keepIn X.K (.ref f) = true) (hb : Binds X.K fd ps ds) (hd : Vals dvs ds) (hx : Passes CX X E)
    (hdb : (x == ("__debug__" : Str)) = false := by decide) : PE X (.Call (.Name x p) [] [] pos) (tCall sp dvs E tNil) := by
  constructor
  intro pins s σ H Q I h
  exact wpAny_Call_Name_kw (ld_glob I hg hm (PySem.W.callWith_K0 I.kIn hk (run_g (us := []) F hgd hr hb hd hx I .nil h)) hdb)
end
/-! ### data: what stands under a value; repr -/
mutual
inductive Dd (K : PySem.W.Frag) (H : Hp) : V → PyData → Prop
  | non : Dd K H .non .none
  | bl (b : Bool) : Dd K H (.bl b) (.bool b)
  | int (i : Int) : Dd K H (.int i) (.int i)
  | str (x : Str) : Dd K H (.str x) (.str x)
  | lst {a : Addr} {xs : List V} {ds : List PyData} : SqL K H a xs → DdAll K H xs ds → Dd K H (.ref a) (.list ds)
  | tup {a : Addr} {xs : List V} {ds : List PyData} : SqT K H a xs → DdAll K H xs ds → Dd K H (.ref a) (.tuple ds)
  | emp {a : Addr} : H a = some (.dK []) → Dd K H (.ref a) (.dict [])
inductive DdAll (K : PySem.W.Frag) (H : Hp) : List V → List PyData → Prop
  | nil : DdAll K H [] []
  | cons {v : V} {vs : List V} {d : PyData} {ds : List PyData} : Dd K H v d → DdAll K H vs ds → DdAll K H (v :: vs) (d :: ds)
end
section
variable {X : Cx} {pins : List (Addr × Obj)} {σ : L2.St} {H : Hp} {s : Shared}
theorem sys_free (hK : ∃ o, X.K.lookup sysModules = some o ∧ o.cls = .type "dict") (I : Inv X pins σ H s) : H sysModules = none := by
  obtain ⟨o, ho, _⟩ := hK
  exact (I.bs sysModules o (I.ok.mod.kin _ _ ho)).2
theorem sql_nosys (hK : ∃ o, X.K.lookup sysModules = some o ∧ o.cls = .type "dict") (I : Inv X pins σ H s) {a : Addr} {xs : List V} (h : SqL X.K H a xs) : a ≠ sysModules := by
  intro e
  subst e
  rcases h with (h | ⟨o, h⟩) | ⟨o, its, n, h, hc, _⟩
  · rw [sys_free hK I] at h; cases h
  · rw [sys_free hK I] at h; cases h
  · obtain ⟨o2, h2, hc2⟩ := hK
    rw [h] at h2
    cases h2
    rw [hc] at hc2
    exact absurd (Value.type.inj hc2) (by decide)
theorem plainL_at {h : Heap} {a : Addr} {its : Array Value} (p : PlainL h a its) : ∃ o n, h.get? a = some o ∧ o.cls = .type "list" ∧ o.data = .seq its n :=
  let ⟨o, n, e, c, _, q⟩ := p
  ⟨o, n, e, c, q⟩
mutual
theorem Dd.reads (hK : ∃ o, X.K.lookup sysModules = some o ∧ o.cls = .type "dict") (I : Inv X pins σ H s) : ∀ (d : PyData) (v : V) (u : Value), Dd X.K H v d → RelV v u → ∃ as, Reads s.heap u d as ∧ sysModules ∉ as
  | _, _, _, .non, r => by cases r; exact ⟨[], .none, by simp⟩
  | _, _, _, .bl b, r => by cases r; exact ⟨[], .bool b, by simp⟩
  | _, _, _, .int i, r => by obtain ⟨t, rfl⟩ := r; exact ⟨[], .int i t, by simp⟩
  | _, _, _, .str x, r => by obtain ⟨t, rfl⟩ := r; exact ⟨[], .str x t, by simp⟩
  | _, _, _, .lst hl hd, r => by
    cases r
    have hn := sql_nosys hK I hl
    obtain ⟨its, rv, hpl, _⟩ := I.list hl
    obtain ⟨o, n, ho, hc, hda⟩ := plainL_at hpl
    obtain ⟨as, ra, na⟩ := Dd.readsAll hK I _ _ _ hd rv
    exact ⟨_, .list ho hc hda (by simpa using ra), fun hm => by
      rcases List.mem_cons.mp hm with q | q
      · exact hn q.symm
      · exact na q⟩
  | _, _, _, .tup hl hd, r => by
    cases r
    obtain ⟨its, rv, ⟨o, ho, hc, n, hda⟩, _⟩ := I.tuple hl
    obtain ⟨as, ra, na⟩ := Dd.readsAll hK I _ _ _ hd rv
    exact ⟨_, .tuple ho hc hda (by simpa using ra), na⟩
  | _, _, _, .emp (a := a) he, r => by
    cases r
    obtain ⟨_, hs, vs, kv, o, es, ep, ho, hx, hda, _, hp, _⟩ := I.hok _ _ he
    cases kv
    have he : es.toList = [] := by
      generalize es.toList = l at hp
      cases hp
      rfl
    refine ⟨_, .dict (kvs := []) (as := []) (bs := []) ho hx.1 hda (by rw [he]; exact .nil) (by rw [he]; exact .nil), fun hm => ?_⟩
    rcases List.mem_cons.mp hm with q | q
    · rw [q] at hs
      simp at hs
    · simp at q
theorem Dd.readsAll (hK : ∃ o, X.K.lookup sysModules = some o ∧ o.cls = .type "dict") (I : Inv X pins σ H s) : ∀ (ds : List PyData) (vs : List V) (us : List Value), DdAll X.K H vs ds → Vals vs us → ∃ as, ReadsAll s.heap us ds as ∧ sysModules ∉ as
  | _, _, _, .nil, r => by cases r; exact ⟨[], .nil, by simp⟩
  | _, _, _, .cons hd hr, r => by
    cases r with
    | cons r1 r2 =>
      obtain ⟨as, ra, na⟩ := Dd.reads hK I _ _ _ hd r1
      obtain ⟨bs, rb, nb⟩ := Dd.readsAll hK I _ _ _ hr r2
      exact ⟨_, .cons ra rb, fun hm => (List.mem_append.mp hm).elim na nb⟩
end
/-- repr(x) of data -/
def rRepr (K : PySem.W.Frag) : List V → Hp → VK → Prop := fun xs H Q => ∃ (x : V) (d : PyData), xs = [x] ∧ Dd K H x d ∧ d.showable = true ∧ d.depth ≤ 50 ∧ d.shown.length ≤ sizeLine ∧ Q (.str d.shown) H
theorem call_repr {k : Nat} (hgd : X.A.guards = some []) (hr : Room k X.A) (hK : ∃ o, X.K.lookup sysModules = some o ∧ o.cls = .type "dict") : CallR X (.builtin "repr") (rRepr X.K) := by
  intro pins s σ H xs us Q I r h
  obtain ⟨x, d, rfl, hd, hsh, hdp, hsz, q⟩ := h
  obtain ⟨u, rfl, ru⟩ := vals1 r
  obtain ⟨as, hR, hns⟩ := hd.reads hK I _ _ u ru
  have hun := hr.units
  cases hR with
  | none => exact PySem.P.repr_of_none ⟨.str _, H, I.tok _, ⟨_, rfl⟩, q⟩
  | bool b => exact PySem.P.repr_of_bool ⟨.str _, H, I.tok _, ⟨_, rfl⟩, q⟩
  | int i t => exact PySem.P.repr_of_int (of_decide_eq_true hsh) ⟨.str _, H, I.tok _, ⟨_, rfl⟩, q⟩
  | str y t => exact PySem.P.repr_of_str ⟨.str _, H, I.tok _, ⟨_, rfl⟩, q⟩ hsz
  | list h1 h2 h3 h4 =>
    exact repr_of_reads' (.list h1 h2 h3 h4) hsh (fun _ => hns) hgd (by omega) (fun _ _ z => z) (fun h' u' tk kp => ⟨.str _, H, I.kept kp, ⟨_, rfl⟩, q⟩) hsz
  | tuple h1 h2 h3 h4 =>
    exact repr_of_reads' (.tuple h1 h2 h3 h4) hsh (fun _ => hns) hgd (by omega) (fun _ _ z => z) (fun h' u' tk kp => ⟨.str _, H, I.kept kp, ⟨_, rfl⟩, q⟩) hsz
  | dict h1 h2 h3 h4 h5 =>
    exact repr_of_reads' (.dict h1 h2 h3 h4 h5) hsh (fun _ => hns) hgd (by omega) (fun _ _ z => z) (fun h' u' tk kp => ⟨.str _, H, I.kept kp, ⟨_, rfl⟩, q⟩) hsz
end
end AT

set_option maxHeartbeats 4000000
namespace AT
open PySem PySem.Spec PyProof.Rows L2
/-- the law's call, from its def's promise -/
theorem lawG {P : Program} {w : World} {K : PySem.W.Frag} {mg mb : Str → Option Value} {CX : CXT} {k : Nat} {fa a : Addr} {fd : FuncData} {x : Str} {sp : Sp} {st : Shared} {vs : List Value} {ns : List Int}
    (KI : K.In st.heap) (hG : st.heap.Ns mainGlobals mg) (hB : st.heap.Ns builtinsNs mb) (hBb : ∀ x : Str, x ≠ "__name__" → mb x = bootBuiltins x) (hNl : st.heap.NoLimit) (hgs : st.gens = #[])
    (hob : st.heap.get? a = some { cls := .type "list", data := .seq vs.toArray }) (hin : IntsAre vs ns) (hsz : ns.length ≤ sizeLine) (hr : Room k callerA)
    (F : ∀ base : Heap, K.In base → base.Ns mainGlobals mg → FnG P w K mg base CX k fa fd [x] sp) (hbd : ∀ (s : Shared) (u : Value), BindsTo s fd ⟨[u], []⟩ [(x, u)])
    (hsp : ∀ H : Hp, Only H → SqL K H a (ns.map V.int) → sp [.ref a] H (fun v _ => v = .bl true) fun _ _ _ => False)
    (hno : ∀ H e s', CX [] H st (fun _ _ _ => False) e s' → False) :
    codeAny (model P w) callerA (.call (.ref fa) ⟨[.ref a], []⟩) (fun r s' => r = .ok (.ret (.bool true)) ∧ OldK st.heap s'.heap ∧ s'.os = st.os ∧ AllBare s'.gens) st := by
  have rv := vals_ints hin
  have main : ∀ H : Hp, Only H → SqL K H a (ns.map V.int) → HOk P w H st.heap → (∀ b, H b ≠ none → b = a) → (H a ≠ none → K.lookup a = none) →
      codeAny (model P w) callerA (.call (.ref fa) ⟨[.ref a], []⟩) (fun r s' => r = .ok (.ret (.bool true)) ∧ OldK st.heap s'.heap ∧ s'.os = st.os ∧ AllBare s'.gens) st := by
    intro H hO hS hok hA hKa
    have free : ∀ {b : Addr} {o : Obj} {es : Array DictEntry} {ep : Nat}, st.heap.get? b = some o → o.data = .dict es ep → H b = none := by
      intro b o es ep e d
      cases q : H b with
      | none => rfl
      | some u =>
        obtain rfl : b = a := hA b (by rw [q]; exact Option.some_ne_none u)
        rw [hob] at e
        cases e
        cases d
    have nsH : ∀ {b : Addr} {m : Str → Option Value}, st.heap.Ns b m → (hidT st.heap H).Ns b m := by
      rintro b m ⟨o, es, ep, e, d, rr⟩
      exact ⟨o, es, ep, hidT_get e (free e d), d, rr⟩
    have KH : K.In (hidT st.heap H) := by
      intro b o e
      refine hidT_get (KI b o e) ?_
      cases q : H b with
      | none => rfl
      | some u =>
        obtain rfl : b = a := hA b (by rw [q]; exact Option.some_ne_none u)
        rw [hKa (by rw [q]; exact Option.some_ne_none u)] at e
        cases e
    have hM : Mod K mg (hidT st.heap H) := by
      obtain ⟨mc, h1, h2⟩ := hNl
      exact ⟨KH, nsH hG, ⟨mb, nsH hB, hBb⟩, ⟨mc, nsH h1, h2⟩⟩
    have e0 : Env0 P w K mg (hidT st.heap H) callerA [] st H :=
      { frames := rfl, mod := hM, bs := fun b o e => of_hidT e, bsz := Nat.le_of_eq (hidT_size _ _), funs := trivial, frf := (by intro b hb; exact absurd hb (by simp [frs])), hok := hok, bare := .of_eq hgs }
    refine codeAny_mono ((F _ KH (nsH hG)).run callerA [] st H ⟨[.ref a], []⟩ [.ref a] [.ref a] _ _ rfl hr e0 (hbd st (.ref a)) (.cons rfl .nil) (hsp H hO hS)) fun r s' h => ?_
    cases r with
    | error e => exact (hno H e s' h).elim
    | ok fl =>
      cases fl with
      | ret u =>
        obtain ⟨v, H', eos, br, un, hok', r', q⟩ := h
        obtain rfl : v = .bl true := q
        obtain rfl : u = Value.bool true := r'
        refine ⟨rfl, OldK.of_keep fun b o e => ?_, eos, br⟩
        cases q : H b with
        | none => exact un.keep b o e q (by simp [frs]) (by simp)
        | some u =>
          rcases hO b with z | ⟨ob, xs, z⟩
          · rw [q] at z
            cases z
          · have y2 := (hok' b _ (un.frzs b ob _ z)).1
            have y1 := (hok b _ z).1
            rw [e] at y1
            cases y1
            exact y2
      | _ => exact False.elim h
  cases hk : K.lookup a with
  | some o =>
    have e := KI a o hk
    rw [hob] at e
    cases e
    refine main (fun _ => none) (fun _ => .inl rfl) (.inr ⟨_, vs.toArray, _, hk, rfl, rfl, rfl, ?_, by simpa using rv⟩) ?_ (fun b z => absurd rfl z) fun z => absurd rfl z
    · rw [List.size_toArray, hin.length]
      exact hsz
    · intro b u z
      exact nomatch (show (none : Option HO) = some u from z)
  | none =>
    let o1 : Obj := { cls := .type "list", data := .seq vs.toArray }
    refine main (fun b => if b = a then some (.frz o1 (.lst (ns.map V.int))) else none) (fun b => ?_) (.inl (.inr ⟨o1, if_pos rfl⟩)) (fun b u z => ?_) (fun b z => ?_) fun _ => hk
    · by_cases hb : b = a
      · exact .inr ⟨_, _, if_pos hb⟩
      · exact .inl (if_neg hb)
    · by_cases hb : b = a
      · have y := (if_pos hb).symm.trans z
        cases y
        subst hb
        exact ⟨hob, by rw [List.length_map]; exact hsz, vs, _, rv, hob⟩
      · have y := (if_neg hb).symm.trans z
        cases y
    · by_cases hb : b = a
      · exact hb
      · exact absurd (if_neg hb) z
theorem walkG {l : PySem.W.OpenLaw} {n k : Nat} {q : Program} {loose : List Str} {XP : (Str → Option Value) → Heap → Prop} {YP : World → Heap → Prop} {d : DefRec} {CX : World → CXT} {x : Str}
    (hn : l.most = some n) (hn2 : n ≤ sizeLine) (hdf : d.params.defaults = []) (hr : Room k callerA)
    (F : ∀ (w : World) (mg : Str → Option Value) (fa : Addr) (h : Heap), YP w h → h.Ns mainGlobals mg → mg d.name = some (.ref fa) →
      ∃ (K : PySem.W.Frag) (fd : FuncData) (sp : Sp), K.In h ∧ (∀ (s : Shared) (u : Value), BindsTo s fd ⟨[u], []⟩ [(x, u)]) ∧
        (∀ (H : Hp) (a : Addr) (ns : List Int), ns.length ≤ n → Only H → SqL K H a (ns.map V.int) → sp [.ref a] H (fun v _ => v = .bl true) fun _ _ _ => False) ∧
        ∀ base : Heap, K.In base → base.Ns mainGlobals mg → FnG l.prog w K mg base (CX w) k fa fd [x] sp)
    (hno : ∀ (w : World) (H : Hp) (s : Shared) (e : Value) (s' : Shared), CX w [] H s (fun _ _ _ => False) e s' → False) :
    PySem.W.WalkO q loose XP YP l.row.toRowW d [] (fun f vs => PySem.call f vs) := by
  refine Att.attach_call hn hdf fun w _ st mg mb fa o pm cd doc a vs ns G Y _ _ _ hmg hob hin hlen hgs => ?_
  obtain ⟨K, fd, sp, KI, hbd, hsp, hF⟩ := F w mg fa _ Y G.T.g hmg
  exact lawG KI G.T.g G.T.b G.T.builtins G.T.nolimit hgs hob hin (Nat.le_trans hlen hn2) hr hF hbd (fun H hO hS => hsp H a ns hlen hO hS) fun H e s' => hno w H st e s'
theorem cx_false {P : Program} {w : World} {outer : List Env} {H : Hp} {s : Shared} {e : Value} {s' : Shared} (h : L2.CX P w outer H s (fun _ _ _ => False) e s') : False := by
  obtain ⟨_, _, _, _, _, _, _, _, _, _, _, _, z⟩ := h
  exact z
end AT

set_option maxHeartbeats 4000000
namespace AT
open PySem PySem.Spec PyProof.Rows L2
/-- a def that keeps a promise, and how it is called with all its parameters -/
def Ok (P : Program) (w : World) (K : PySem.W.Frag) (mg : Str → Option Value) (base : Heap) (k : Nat) (f : Addr) (ps : List Str) (sp : Sp) : Prop :=
  ∃ fd, FnOk P w K mg base (L2.CX P w) k f fd ps sp ∧ Binds K fd ps [] ∧ PySem.W.keepIn K (.ref f) = true
/-- .. with its last parameters left to their defaults dvs -/
def OkD (P : Program) (w : World) (K : PySem.W.Frag) (mg : Str → Option Value) (base : Heap) (k : Nat) (f : Addr) (ps : List Str) (dvs : List V) (sp : Sp) : Prop :=
  ∃ fd ds, FnOk P w K mg base (L2.CX P w) k f fd ps sp ∧ Vals dvs ds ∧ Binds K fd ps ds ∧ PySem.W.keepIn K (.ref f) = true
/-- .. where no repr is under way -/
def OkG (P : Program) (w : World) (K : PySem.W.Frag) (mg : Str → Option Value) (base : Heap) (k : Nat) (f : Addr) (ps : List Str) (sp : Sp) : Prop :=
  ∃ fd, FnG P w K mg base (L2.CX P w) k f fd ps sp ∧ Binds K fd ps [] ∧ PySem.W.keepIn K (.ref f) = true
section
variable {X : Cx} {k : Nat} {f C : Addr} {ps : List Str} {sp : Sp} {dvs : List V} {E : XK} {x m : Str} {p pos apos : Pos} {e o : Expr} {es : List Expr} {ta : TE} {t : TA}
theorem ok_call (F : Ok X.prog X.w X.K X.mg X.base k f ps sp) (hr : Room k X.A) (hg : Gl X x) (hm : X.mg x = some (.ref f)) (hx : Passes (L2.CX X.prog X.w) X E) (ha : PA X (e :: es) t)
    (hdb : (x == ("__debug__" : Str)) = false := by decide) (hst : starEach (e :: es) X.env = (false, eval e X.env) :: starEach es X.env := by rfl) (hns : (backTo pos (starEach es X.env)).any (·.1) = false := by rfl) :
    PE X (.Call (.Name x p) (e :: es) [] pos) (tCall sp [] E t) := by
  obtain ⟨fd, F1, b, kp⟩ := F
  exact pe_call F1 hr hg hm kp b .nil hx ha hdb hst hns
theorem ok_call0 (F : Ok X.prog X.w X.K X.mg X.base k f [] sp) (hr : Room k X.A) (hg : Gl X x) (hm : X.mg x = some (.ref f)) (hx : Passes (L2.CX X.prog X.w) X E)
    (hdb : (x == ("__debug__" : Str)) = false := by decide) : PE X (.Call (.Name x p) [] [] pos) (tCall sp [] E tNil) := by
  obtain ⟨fd, F1, b, kp⟩ := F
  exact pe_call0 F1 hr hg hm kp b .nil hx hdb
theorem ok_callG (F : OkG X.prog X.w X.K X.mg X.base k f ps sp) (hgd : X.A.guards = some []) (hr : Room k X.A) (hg : Gl X x) (hm : X.mg x = some (.ref f)) (hx : Passes (L2.CX X.prog X.w) X E) (ha : PA X (e :: es) t)
    (hdb : (x == ("__debug__" : Str)) = false := by decide) (hst : starEach (e :: es) X.env = (false, eval e X.env) :: starEach es X.env := by rfl) (hns : (backTo pos (starEach es X.env)).any (·.1) = false := by rfl) :
    PE X (.Call (.Name x p) (e :: es) [] pos) (tCall sp [] E t) := by
  obtain ⟨fd, F1, b, kp⟩ := F
  exact pe_callG F1 hgd hr hg hm kp b .nil hx ha hdb hst hns
theorem ok_callG0 (F : OkG X.prog X.w X.K X.mg X.base k f [] sp) (hgd : X.A.guards = some []) (hr : Room k X.A) (hg : Gl X x) (hm : X.mg x = some (.ref f)) (hx : Passes (L2.CX X.prog X.w) X E)
    (hdb : (x == ("__debug__" : Str)) = false := by decide) : PE X (.Call (.Name x p) [] [] pos) (tCall sp [] E tNil) := by
  obtain ⟨fd, F1, b, kp⟩ := F
  exact pe_callG0 F1 hgd hr hg hm kp b .nil hx hdb
/-- in a try's body -/
theorem ok_callS {W : WX} (F : Ok X.prog X.w X.K X.mg X.base k f ps sp) (hr : Room k X.A) (hg : Gl X x) (hm : X.mg x = some (.ref f)) (tk : Takes X W) (ha : PA X (e :: es) t)
    (hdb : (x == ("__debug__" : Str)) = false := by decide) (hst : starEach (e :: es) X.env = (false, eval e X.env) :: starEach es X.env := by rfl) (hns : (backTo pos (starEach es X.env)).any (·.1) = false := by rfl) :
    PE X (.Call (.Name x p) (e :: es) [] pos) (tCallSD sp [] (fun σ cls d H => W cls d σ H) t) := by
  obtain ⟨fd, F1, b, kp⟩ := F
  exact pe_callSD F1 hr hg hm kp b .nil (fun σ => passAt tk σ) ha hdb hst hns
/-- C(e, ..) -/
theorem ok_make (M : Mk X.K C f) (F : Ok X.prog X.w X.K X.mg X.base k f ps sp) (hr : Room (k + 1) X.A) (hg : Gl X x) (hm : X.mg x = some (.ref C)) (hx : Passes (L2.CX X.prog X.w) X E) (ha : PA X (e :: es) t)
    (hdb : (x == ("__debug__" : Str)) = false := by decide) (hst : starEach (e :: es) X.env = (false, eval e X.env) :: starEach es X.env := by rfl) (hns : (backTo pos (starEach es X.env)).any (·.1) = false := by rfl) :
    PE X (.Call (.Name x p) (e :: es) [] pos) (tMake C sp [] E t) := by
  obtain ⟨fd, F1, b, kp⟩ := F
  exact pe_make M F1 hr hg hm b .nil hx ha hdb hst hns
theorem ok_makeD (M : Mk X.K C f) (F : OkD X.prog X.w X.K X.mg X.base k f ps dvs sp) (hr : Room (k + 1) X.A) (hg : Gl X x) (hm : X.mg x = some (.ref C)) (hx : Passes (L2.CX X.prog X.w) X E) (ha : PA X (e :: es) t)
    (hdb : (x == ("__debug__" : Str)) = false := by decide) (hst : starEach (e :: es) X.env = (false, eval e X.env) :: starEach es X.env := by rfl) (hns : (backTo pos (starEach es X.env)).any (·.1) = false := by rfl) :
    PE X (.Call (.Name x p) (e :: es) [] pos) (tMake C sp dvs E t) := by
  obtain ⟨fd, ds, F1, vd, b, kp⟩ := F
  exact pe_make M F1 hr hg hm b vd hx ha hdb hst hns
/-- o.f, a property -/
theorem ok_prop {g : Addr} (c : Cls X.K C) (hp : ∃ q, PropOf X.K C m q g) (F : Ok X.prog X.w X.K X.mg X.base k g [("self" : Str)] sp) (hr : Room (k + 1) X.A) (he : PE X e ta)
    (hab : attributeBase e m X.env (eval e X.env) = eval e X.env := by rfl) : PE X (.Attribute e m pos) (tProp C sp [] E0 ta) := by
  obtain ⟨q, hq⟩ := hp
  obtain ⟨fd, F1, b, kp⟩ := F
  exact pe_prop he c hq F1 hr b .nil passL hab
end
/-- all that the body's proof gives: a def's promise -/
theorem mk_ok {P : Program} {w : World} {K : PySem.W.Frag} {mg : Str → Option Value} {base : Heap} {x qual : Str} {st : Stmt} {kws : List (Str × V)} {f : Addr} {N ps : List Str} {k : Nat} {sp : Sp}
    (F : ∃ fd, FunD K x qual (defArgs st) (defBody st) (defScope st) [] kws f fd) (S : FnScope N ps (defScope st))
    (hb : ∀ (kV doc pm : Value) (an : Option Addr) (cdv ct : Value) (us : List Value), us.length = ps.length → bindArgs (PySem.W.fnOf x qual (defArgs st) (defBody st) (defScope st) .none kV doc pm an cdv ct) ⟨us, []⟩ = pure (ps.zip us))
    (len : ∀ vs H Q E, sp vs H Q E → vs.length = ps.length)
    (body : ∀ (cdv : Value) (A : Around) (outer : List Env) (s : Shared) (H : Hp) (vs : List V) (Q : VK) (E : XK), Room k (A.deeper (envOfC qual (defScope st) s.heap.objs.size f cdv)) → sp vs H Q E →
      ∃ t, PSs (cxOf (L2.CX P w) P w K mg base N qual (defScope st) f cdv A outer s H E) (defBody st) t ∧ t { nx := fun _ H' => Q .non H', rt := Q } (start N vs) H) : Ok P w K mg base (k + 1) f ps sp := by
  obtain ⟨fd, F⟩ := F
  exact ⟨fd, F.ok S len body, F.bindsN hb, F.kp⟩
theorem mk_okG {P : Program} {w : World} {K : PySem.W.Frag} {mg : Str → Option Value} {base : Heap} {x qual : Str} {st : Stmt} {kws : List (Str × V)} {f : Addr} {N ps : List Str} {k : Nat} {sp : Sp}
    (F : ∃ fd, FunD K x qual (defArgs st) (defBody st) (defScope st) [] kws f fd) (S : FnScope N ps (defScope st))
    (hb : ∀ (kV doc pm : Value) (an : Option Addr) (cdv ct : Value) (us : List Value), us.length = ps.length → bindArgs (PySem.W.fnOf x qual (defArgs st) (defBody st) (defScope st) .none kV doc pm an cdv ct) ⟨us, []⟩ = pure (ps.zip us))
    (len : ∀ vs H Q E, sp vs H Q E → vs.length = ps.length)
    (body : ∀ (cdv : Value) (A : Around) (outer : List Env) (s : Shared) (H : Hp) (vs : List V) (Q : VK) (E : XK), (A.deeper (envOfC qual (defScope st) s.heap.objs.size f cdv)).guards = some [] → Room k (A.deeper (envOfC qual (defScope st) s.heap.objs.size f cdv)) → sp vs H Q E →
      ∃ t, PSs (cxOf (L2.CX P w) P w K mg base N qual (defScope st) f cdv A outer s H E) (defBody st) t ∧ t { nx := fun _ H' => Q .non H', rt := Q } (start N vs) H) : OkG P w K mg base (k + 1) f ps sp := by
  obtain ⟨fd, F⟩ := F
  exact ⟨fd, okG F S len (fun cdv A outer s H vs Q E hg => body cdv A outer s H vs Q E hg), F.bindsN hb, F.kp⟩
theorem Ok.mono {P : Program} {w : World} {K : PySem.W.Frag} {mg : Str → Option Value} {base : Heap} {j k : Nat} {f : Addr} {ps : List Str} {sp : Sp} (F : Ok P w K mg base j f ps sp) (h : j ≤ k) : Ok P w K mg base k f ps sp := by
  obtain ⟨fd, F1, b, kp⟩ := F
  exact ⟨fd, F1.mono h, b, kp⟩
theorem Ok.imp {P : Program} {w : World} {K : PySem.W.Frag} {mg : Str → Option Value} {base : Heap} {k : Nat} {f : Addr} {ps : List Str} {sp sp' : Sp} (F : Ok P w K mg base k f ps sp) (h : ∀ vs H Q E, sp' vs H Q E → sp vs H Q E) : Ok P w K mg base k f ps sp' := by
  obtain ⟨fd, F1, b, kp⟩ := F
  exact ⟨fd, F1.imp h, b, kp⟩
/-- an exception's class, made anywhere -/
theorem mk_X {X : Cx} {x f : Str} {k : Nat} (T : Xc X.K x f) (hm : X.mg x = some (.ref (He.ga X.K x))) (F : Ok X.prog X.w X.K X.mg X.base k (He.ma X.K (He.ga X.K x) "__init__") [("self" : Str), f] (spXi X.K (He.ga X.K x) f)) (hr : Room (k + 1) X.A) (hdb : (x == ("__debug__" : Str)) = false := by decide) : MkX X x f := by
  obtain ⟨fd, F1, b, kp⟩ := F
  exact mkX_of T hm F1 b hr hdb
/-- what a callee lets out leaves the def -/
theorem passE {X : Cx} {E : XK} {E1 : Value → Shared → Prop} (hs : X.stack = X.env :: X.outer) (hf : X.env.frame = some X.env.locals) (hex : X.ex = []) (hx : X.xe = fun e s' => wpAny (model X.prog X.w) X.A (leaving X.env e) (fun _ s'' => L2.CX X.prog X.w X.outer X.H_0 X.s_0 E e s'') E1 s') : Passes (L2.CX X.prog X.w) X E :=
  passes_call (takes_of hs hf hex hx) (fun _ _ _ _ z => z)
end AT
namespace AT
open PySem PySem.Spec PyProof.Rows L2
theorem pe_k {X : Cx} {x : Str} {v : V} {pos : Pos} (h : ∃ u, X.mg x = some u ∧ RelV v u) (hg : Gl X x := by rfl) (hd : (x == ("__debug__" : Str)) = false := by decide) : PE X (.Name x pos) (tC v) := by
  obtain ⟨u, hu, r⟩ := h
  exact pe_glob hg hu r hd
/-- // by a divisor of any sign, not 0, below 2 ^ 9000 -/
def CDivZ (_ j : Int) : Prop := j ≠ 0 ∧ j.natAbs.log2 < 9000
theorem op_fdivZ {X : Cx} : OpR X (binaryOp .FloorDiv) (rI CDivZ fun i j => .int (i.fdiv j)) := opI fun _ _ _ _ _ _ _ hc q => floordiv_int hc.1 q (.inl (PyProof.noPylong_of_log2 hc.2))
end AT
namespace AT
open PySem PySem.Spec PyProof.Rows L2
theorem pe_gr {X : Cx} {x : Str} {a : Addr} {pos : Pos} (h : X.mg x = some (.ref a)) (hg : Gl X x := by rfl) (hd : (x == ("__debug__" : Str)) = false := by decide) : PE X (.Name x pos) (tC (.ref a)) := pe_glob hg h rfl hd
end AT
namespace AT
open PySem PySem.Spec PyProof.Rows L2
/-- a def with one default v: called with it left out, and with all given -/
theorem mk_okD1 {P : Program} {w : World} {K : PySem.W.Frag} {mg : Str → Option Value} {base : Heap} {x qual : Str} {st : Stmt} {kws : List (Str × V)} {v : V} {f : Addr} {N ps : List Str} {k n : Nat} {sp : Sp}
    (F : ∃ fd, FunD K x qual (defArgs st) (defBody st) (defScope st) [v] kws f fd) (S : FnScope N ps (defScope st)) (hn : n + 1 = ps.length)
    (hb : ∀ (T : Addr) (kV doc pm : Value) (an : Option Addr) (cdv ct : Value) (us : List Value) (u : Value), us.length = n → ∃ k, bindArgs (PySem.W.fnOf x qual (defArgs st) (defBody st) (defScope st) (.ref T) kV doc pm an cdv ct) ⟨us, []⟩ = seqItems? (.ref T) >>= k ∧ k (some #[u]) = pure (ps.zip (us ++ [u])))
    (hb2 : ∀ (T : Addr) (kV doc pm : Value) (an : Option Addr) (cdv ct : Value) (us : List Value) (u : Value), us.length = n + 1 → ∃ k, bindArgs (PySem.W.fnOf x qual (defArgs st) (defBody st) (defScope st) (.ref T) kV doc pm an cdv ct) ⟨us, []⟩ = seqItems? (.ref T) >>= k ∧ k (some #[u]) = pure (ps.zip us))
    (len : ∀ vs H Q E, sp vs H Q E → vs.length = ps.length)
    (body : ∀ (cdv : Value) (A : Around) (outer : List Env) (s : Shared) (H : Hp) (vs : List V) (Q : VK) (E : XK), Room k (A.deeper (envOfC qual (defScope st) s.heap.objs.size f cdv)) → sp vs H Q E →
      ∃ t, PSs (cxOf (L2.CX P w) P w K mg base N qual (defScope st) f cdv A outer s H E) (defBody st) t ∧ t { nx := fun _ H' => Q .non H', rt := Q } (start N vs) H) :
    Ok P w K mg base (k + 1) f ps sp ∧ OkD P w K mg base (k + 1) f ps [v] sp := by
  obtain ⟨fd, F⟩ := F
  have one : ∀ its : List Value, its.length = 1 → ∃ u, its = [u] := fun its h => List.length_eq_one_iff.mp h
  constructor
  · obtain ⟨ds, vd, b⟩ := F.binds1 (ps := ps) (n + 1) 1 (by simp) (by simpa using hn) (fun T kV doc pm an cdv ct us its h1 h2 => by
      obtain ⟨u, rfl⟩ := one its h2
      obtain ⟨k, e1, e2⟩ := hb2 T kV doc pm an cdv ct us u h1
      exact ⟨k, e1, by simpa using e2⟩)
    cases vd
    exact ⟨fd, F.ok S len body, b, F.kp⟩
  · obtain ⟨ds, vd, b⟩ := F.binds1 (ps := ps) n 0 (by simp) (by simpa using hn) (fun T kV doc pm an cdv ct us its h1 h2 => by
      obtain ⟨u, rfl⟩ := one its h2
      obtain ⟨k, e1, e2⟩ := hb T kV doc pm an cdv ct us u h1
      exact ⟨k, e1, by simpa using e2⟩)
    exact ⟨fd, ds, F.ok S len body, vd, b, F.kp⟩
end AT

set_option maxHeartbeats 4000000
/-! list comprehensions whose block captures nothing and lets out what a call raises -/
namespace AT
open PySem PySem.Spec PyProof.Rows L2
/-- the block's context with a wish about exceptions -/
abbrev BkR (X : Cx) (t : Shared) (G : Hp) (sc : Scope) (ce : Env) (fp : List Addr) (xe : Value → Shared → Prop) : Cx := { X.blk t G sc ce fp with xe := xe }
section
variable {X : Cx} {pins : List (Addr × Obj)} {σ : L2.St} {H : Hp} {s s' : Shared} {E : XK}
theorem inv_xe (xe : Value → Shared → Prop) (I : Inv X pins σ H s) : Inv { X with xe := xe } pins σ H s :=
  ⟨⟨I.ok.mod, I.ok.kind, I.ok.glob, I.ok.blt, I.ok.above, I.ok.inj, I.ok.has, I.ok.cab, I.ok.hd, I.ok.frames, I.ok.stk, I.ok.exf, I.ok.bs, I.ok.bsz, I.ok.noex, I.ok.exfs, I.ok.funs, I.ok.frf⟩,
    I.os, I.bare, I.base, I.loc, I.cell, I.free, I.freeC, I.pin, I.hok, I.len⟩
theorem note_frame {ce ev : Env} (hf : ce.frame = ev.frame) (u : Value) : noteFrame u ce = noteFrame u ev := by
  unfold noteFrame PySem.frameOf
  rw [hf]
/-- noted at the frame, by whichever road -/
theorem sky_held {B : Heap} {a : Addr} {Z : Obj → Prop} {outer : List Env} {ev ce : Env} {L : Addr} {A : Around} {E1 : Value → Shared → Prop} {M : Model} {Q : Unit → Shared → Prop} (hZ : HandSPX.Steady Z) (hfr : A.frames = some (ev :: outer)) (hf : ev.frame = some L) (he : ce.frame = ev.frame)
    (x : Sky B (ev :: outer) a Z L s.heap) (hQ : ∀ g, HandSPX.HeldZ B (ev :: outer) a Z L g → s.heap.UpToSlots g → Q () { s with heap := g }) : wpAny M A (noteFrame (.ref a) ce) Q E1 s := by
  rw [note_frame he]
  rcases x with ⟨hB, hn, hl, oe, vs, hx, hz, hd, h1⟩ | fl | hh
  · exact HandSPX.look_newZ hZ hfr hl hf hx hB hn hd h1 hz hQ
  · exact HandSPX.looks_onZ hZ hfr hf fl hQ
  · exact HandSPX.againZ hf hh.2.2.2 (hQ s.heap hh (Heap.UpToSlots.refl _))
theorem frames_but {base h g : Heap} {C : Addr} {oC : Obj} (sb : ∀ b, b ≠ C → g.get? b = h.get? b) (hC : base.get? C = some oC) : ∀ {l : List Env}, h.FunFrames base l → g.FunFrames (PySem.W.hideAll base [C]) l
  | [], _ => trivial
  | ev :: l, z => by
    obtain ⟨hk, ⟨L, o, hf, hb, ho, hd⟩, r⟩ := z
    have nL : L ≠ C := fun q => by rw [q, hC] at hb; cases hb
    refine ⟨hk, ⟨L, o, hf, ?_, (sb L nL).trans ho, hd⟩, frames_but sb hC r⟩
    cases q : (PySem.W.hideAll base [C]).get? L with
    | none => rfl
    | some o' =>
      rw [PySem.W.of_hideAll _ q] at hb
      cases hb
/-- what a call of the block raised leaves the comprehension -/
theorem block_out {C : Addr} {oC : Obj} {u : Value} {ce : Env} {E1 : Value → Shared → Prop} (stk : X.stack = X.env :: X.outer) (frm : X.env.frame = some X.env.locals) (tk : Takes X (fun c d _ G => E c d G)) (I : Inv X pins σ H s) (fC : FpOk X pins H C) (gC : s.heap.get? C = some oC) (dC : ∃ es ep, oC.data = .dict es ep)
    (c : L2.CX X.prog X.w X.stack H s E u s') (hce : ce.frame = X.env.frame) :
    wpAny (model X.prog X.w) X.A (noteFrame u ce) (fun _ t => t.heap.get? C = some oC ∧ ∀ g, Heap.SameBut C t.heap g → wpAny (model X.prog X.w) X.A (passOn "comprehension.variables-let-go" u ce : Sem Value) (fun _ _ => False) X.xe { t with heap := g }) E1 s' := by
  have oki := I.ok
  have fr2 : X.A.frames = some (X.env :: X.outer) := by rw [oki.frames, stk]
  obtain ⟨es, ep, dC⟩ := dC
  have nc : ∀ v, oC.data ≠ .cell v := fun v z => by rw [dC] at z; cases z
  -- the block's dict stays: a pin
  have Ip : Inv X (pins ++ [(C, oC)]) σ H s := I.pins_of fun p hp => (List.mem_append.mp hp).elim (fun z => I.pin p (List.mem_append_right _ z)) fun z => by
    have z : p = (C, oC) := by simpa using z
    subst z
    exact ⟨gC, fC.1, fC.2.1, fC.2.2.1, nc⟩
  have It := Ip.toTry (fun _ _ => False)
  obtain ⟨a, G, tI, pp, σ1, H1, cls, d, rfl, J, nb, up, sky, na, eos, abr, wsh⟩ := XE.of_call (X := X.tr (X.pn ++ (pins ++ [(C, oC)])) (fun _ _ => False)) (E := E) (W := fun c d _ G => E c d G) It (fun _ _ _ h => h) c
  have J1 : Inv X (pins ++ [(C, oC)]) σ1 H1 tI := J.ofTry oki
  obtain ⟨gI, hI, cL, cF, _⟩ := J1.pin (C, oC) (by simp)
  have cS : C ∉ frs X.stack := fun hm => by
    rcases List.mem_cons.mp (J1.stkSub C hm) with z | z
    · exact cL z
    · exact cF z
  have gG : G.get? C = some oC := nb C oC gI cS
  have sky2 : Sky G (X.env :: X.outer) a (Zc cls d) X.env.locals s'.heap := by rw [← stk]; exact sky
  refine sky_held Zc.steady fr2 frm hce sky2 fun g1 hh1 up1 => ⟨hh1.1 C oC gG, fun g2 sb => ?_⟩
  obtain ⟨k1, k2, k3, oe, vs, T, oT, ts, e1, z1, d1, v1, nT, Te, eT, dT, t3⟩ := hh1
  have aC : a ≠ C := fun z => by rw [z, gG] at k2; cases k2
  have TC : T ≠ C := fun z => by rw [z, gG] at nT; cases nT
  have noG : ∀ {b : Addr} {o : Obj}, (PySem.W.hideAll G [C]).get? b = some o → G.get? b = some o ∧ b ≠ C := fun {b o} q => ⟨PySem.W.of_hideAll _ q, fun z => by rw [z, PySem.W.hideAll_none [C] (by simp)] at q; cases q⟩
  have hn : ∀ {b : Addr}, G.get? b = none → (PySem.W.hideAll G [C]).get? b = none := fun {b} q => by
    cases z : (PySem.W.hideAll G [C]).get? b with
    | none => rfl
    | some o => rw [(noG z).1] at q; cases q
  have hh2 : HandSPX.HeldZ (PySem.W.hideAll G [C]) (X.env :: X.outer) a (Zc cls d) X.env.locals g2 := by
    refine ⟨fun b o q => ?_, hn k2, ?_, oe, vs, T, oT, ts, (sb.2 a aC).trans e1, z1, d1, v1, hn nT, Te, (sb.2 T TC).trans eT, dT, t3⟩
    · exact (sb.2 b (noG q).2).trans (k1 b o (noG q).1)
    · exact frames_but sb.2 gG k3
  unfold PySem.passOn
  obtain ⟨_, _, _, ob, vb, Tb, oTb, tsb, gb, zb, db, b1, _⟩ := id hh2
  refine wpAny_bind (wpAny_field gb db b1 ?_)
  rw [if_neg (by simp)]
  have fin : wpAny (model X.prog X.w) X.A (setFlight (.ref a) ce.frame) (fun _ t4 => wpAny (model X.prog X.w) X.A (throw (.ref a) : Sem Value) (fun _ _ => False) X.xe t4) X.xe { s' with heap := g2 } := by
    rw [hce, frm]
    refine HandSPX.setFlight_onZ hh2 fun g4 hg4 up4 => wpAny_throw (tk _ _ ?_)
    have J2 : Inv X pins σ1 H1 { tI with heap := PySem.W.hideAll tI.heap [C] } := J1.unpinned.turned (t' := tI.toks) (fun b o hb q => PySem.W.hideAll_get [C] q (by simpa using hb)) hI cL fC.2.2.2.1 fC.2.2.2.2.1 fC.2.2.2.2.2
    refine ⟨a, PySem.W.hideAll G [C], { tI with heap := PySem.W.hideAll tI.heap [C] }, pins, σ1, H1, cls, d, rfl, J2, fun b o q hb => ?_, fun b o q hnf => ?_, .inr (.inr (by rw [stk]; exact hg4)), na, eos, abr, wsh⟩
    · have bC : b ≠ C := fun z => by rw [z, PySem.W.hideAll_none [C] (by simp)] at q; cases q
      exact PySem.W.hideAll_get [C] (nb b o (PySem.W.of_hideAll _ q) hb) (by simpa using bC)
    · have bC : b ≠ C := fun z => by rw [z, PySem.W.hideAll_none [C] (by simp)] at q; cases q
      obtain ⟨l1, q1⟩ := up b o (PySem.W.of_hideAll _ q) hnf
      obtain ⟨l2, q2⟩ := up1 b _ q1 hnf
      obtain ⟨l3, q3⟩ := up4 b _ ((sb.2 b bC).trans q2) hnf
      exact ⟨l3, q3⟩
  first
    | exact wpAny_bind (wpAny_pure (wpAny_bind fin))
    | exact wpAny_bind fin
end
end AT

set_option maxHeartbeats 4000000
namespace AT
open PySem PySem.Spec PyProof.Rows L2
theorem Same.new {H H' : Hp} {p : Addr} {o : HO} (s : Same H H') (hp : H p = none) : Same H (upd H' p o) := fun b u e => by
  rw [upd_ne (ne_of_none e hp)]
  exact s b u e
theorem Same.up {H : Hp} {p : Addr} {o : HO} (hp : H p = none) : Same H (upd H p o) := Same.new (Same.refl H) hp
theorem Same.tup {K : PySem.W.Frag} {H H' : Hp} {a : Addr} {xs : List V} (e : Same H H') (h : SqT K H a xs) : SqT K H' a xs := by
  rcases h with (h | ⟨o, h⟩) | h
  · exact .inl (.inl (e _ _ h))
  · exact .inl (.inr ⟨o, e _ _ h⟩)
  · exact .inr h
/-- the part of a list that is through, filtered and mapped -/
theorem take_step {α β : Type} {l : List α} {i : Nat} {x : α} (p : α → Bool) (f : α → β) (h : l[i]? = some x) :
    ((l.take (i + 1)).filter p).map f = ((l.take i).filter p).map f ++ (if p x then [f x] else []) := by
  rw [List.take_add_one, h, Option.toList_some, List.filter_append, List.map_append]
  congr 1
  cases hp : p x <;> simp [List.filter, hp]
/-- a comprehension over a text whose element and test only make new objects; the target a name in slot j -/
theorem lc_text {z : Str} {tt : TT} {te : TE} {j : Nat} {vs : List Nat} {σ : L2.St} {H1 : Hp} {D : Addr} {Qd : Hp → Prop} (p : Nat → Bool) (f : Nat → V) (hz : z.cps.size < sizeLine) (hD : H1 D = none)
    (hw : ∀ x, wipe ((wipe σ vs).set j (some x)) vs = wipe σ vs)
    (ht : ∀ (c : Nat) (H : Hp) (R : Bool → Hp → Prop), c ∈ z.cps.toList → Same H1 H → (∀ H', Same H H' → R (p c) H') → tt ((wipe σ vs).set j (some (.str ⟨#[c]⟩))) H R)
    (he : ∀ (c : Nat) (H : Hp) (R : VK), c ∈ z.cps.toList → Same H1 H → (∀ H', Same H H' → R (f c) H') → te ((wipe σ vs).set j (some (.str ⟨#[c]⟩))) H R)
    (hd : ∀ H, Same H1 H → H D = some (.lst ((z.cps.toList.filter p).map f)) → Qd H) :
    ∃ W : Nat → Nat → Hp → Prop, (∃ m, W 0 m (upd H1 D (.lst []))) ∧ ∀ i m H, W i m H →
      ((Its z).stop i H ∧ Qd H) ∨ ((Its z).go i H ∧ ∃ Nx : Hp → Prop, (∀ H', Nx H' → ∃ m', m' < m ∧ W (i + 1) m' H') ∧ ∀ x H', (Its z).yld i H x H' → gName j x (wipe σ vs) H' fun σ2 H2 => wipe σ2 vs = wipe σ vs ∧ tt σ2 H2 fun b H3 =>
        if b = true then te σ2 H3 fun y H4 => ∃ acc, H4 D = some (.lst acc) ∧ acc.length < sizeLine ∧ Nx (upd H4 D (.lst (acc ++ [y]))) else Nx H3) := by
  refine lc_it walk_str (fun i H => Same H1 H ∧ H D = some (.lst (((z.cps.toList.take i).filter p).map f))) ⟨Same.up hD, by rw [upd_same]; rfl⟩ (fun _ _ _ _ => trivial) (fun i x H H' hi hP hY => ?_) (fun H hP => ?_)
  · obtain ⟨sm, hl⟩ := hP
    obtain ⟨rfl, c, hc, rfl⟩ := hY
    have hc' : z.cps.toList[i]? = some c := by rw [Array.getElem?_toList]; exact hc
    have hm : c ∈ z.cps.toList := List.mem_of_getElem? hc'
    have hst := take_step p f hc'
    refine ⟨hw _, ht c H' _ hm sm fun H2 s2 => ?_⟩
    cases hp : p c with
    | false =>
      refine iteF ⟨sm.trans s2, ?_⟩
      rw [hst, hp]
      simpa using s2 _ _ hl
    | true =>
      refine iteT (he c H2 _ hm (sm.trans s2) fun H3 s3 => ⟨_, s3 _ _ (s2 _ _ hl), ?_, ?_, ?_⟩)
      · have h1 : (((z.cps.toList.take i).filter p).map f).length ≤ z.cps.toList.length := by
          rw [List.length_map]
          exact Nat.le_trans (List.length_filter_le _ _) (by rw [List.length_take]; exact Nat.min_le_right _ _)
        have h2 : z.cps.toList.length = z.cps.size := Array.length_toList
        omega
      · exact AT.Same.new ((sm.trans s2).trans s3) hD
      · rw [upd_same, hst, hp]
        rfl
  · obtain ⟨sm, hl⟩ := hP
    have e : z.cps.toList.take z.cps.size = z.cps.toList := by
      rw [← Array.length_toList, List.take_length]
    rw [e] at hl
    exact hd H sm hl
end AT

set_option maxHeartbeats 4000000
namespace AT
open PySem PySem.Spec PyProof.Rows L2
open AutoSeq1 (wpAny_loadPart')
theorem str_declines (z : Str) (u : Tok) (l : Addr) (o : Obj) (es : Array DictEntry) (n : Nat) :
    Meets (Builtin.«str.__eq__» ⟨[.str z u, .ref l], []⟩) (fun _ R s => s.heap.get? l = some o ∧ o.data = .dict es n ∧ R (.ok (.ret .notImplemented)) s) :=
  .of_wp fun prog w A R s h => by
    obtain ⟨hp, g, d, tk, os⟩ := s
    obtain ⟨hl, hc, h⟩ := h
    wp_walk using wpAny_loadPart' hl, wpAny_load hl
    rw [hc]
    wp_walk
    exact ⟨_, rfl, h⟩
section
variable {prog : Program} {w : World} {A : Around} {E : Value → Shared → Prop} {s : Shared}
theorem dict_declines {a : Addr} {z : Str} {u : Tok} {Q : Value → Shared → Prop} (ha : s.TypeIs (.ref a) "dict") (q : Q .notImplemented s) : wpAny (model prog w) A (call (.builtin "dict.__eq__") [.ref a, .str z u]) Q E s := by
  refine wpAny_call_entry PySem.F.slot_dict_eq ha PySem.F.entry_dict_eq ?_ (PySem.F.args_dict_eq_2 _ _)
  show wpAny _ _ (Builtin.Dict.dictSlotArgs "__eq__" ⟨[.ref a, .str z u], []⟩ >>= _) _ _ s
  refine wpAny_bind ?_
  unfold Builtin.Dict.dictSlotArgs
  refine wpAny_bind (wpAny_notOrdered_dict ha ?_)
  show wpAny _ _ (pure (Value.ref a, Value.str z u)) _ _ s
  refine wpAny_pure ?_
  refine wpAny_bind (wpAny_isInstance (T := "str") (typeIs_str s z u) PySem.F.sub_str_dict ?_)
  simp only [Bool.not_false, if_true]
  refine wpAny_bind (wpAny_rule ?_)
  exact wpAny_pure ⟨_, rfl, q⟩
end
/-- an empty dict is unlike a text -/
theorem eq_emp {X : Cx} {pins : List (Addr × Obj)} {σ : L2.St} {H : Hp} {s : Shared} {a : Addr} {z : Str} {u : Tok} {Q : Value → Shared → Prop} {E : Value → Shared → Prop} (I : Inv X pins σ H s) (hu : X.A.units < cLine) (he : H a = some (.dK [])) (q : Q (.bool false) s) :
    wpAny (model X.prog X.w) X.A (compareOp .Eq (.ref a) (.str z u)) Q E s := by
  obtain ⟨_, hs, vs, kv, o, es, ep, ho, hx, hda, _, hp, _⟩ := I.hok _ _ he
  show wpAny _ _ (richCompare .Eq _ _) _ _ _
  have ty : s.TypeIs (.ref a) "dict" := ⟨o, ho, hx.1⟩
  exact SeqAt.rc_eq_decline_or (k := false) ty (typeIs_str s z u) (by decide) PySem.F.sub_str_dict PySem.F.slot_dict_eq PySem.F.slot_str_eq_refl
    (fun _ hq => dict_declines ty hq)
    (fun _ hq => call_meets PySem.F.slot_str_eq_refl (typeIs_str s z u) PySem.F.entry_str_eq (PySem.F.args_str_eq_2 _ _) (str_declines z u a o es ep) ⟨ho, hda, hq⟩)
    (fun _ hq => wpAny_of_eq (rfl : isSame (.ref a) (.str z u) = pure false) hq) (.inr hu) q
/-- x == z of data x, and of an empty dict, and a text z -/
def rEqZ (K : PySem.W.Frag) : R2 := fun x y H Q => ∃ z, y = .str z ∧ ((∃ d, Dp K H x d ∧ SeqAt.shaped d = true ∧ PyData.strOk z = true ∧ Q (.bl (PyData.eqv d (.str z))) H) ∨ ∃ a, x = .ref a ∧ H a = some (.dK []) ∧ Q (.bl false) H)
theorem op_eqZ {X : Cx} (hu : X.A.units + 64 < cLine) : OpR X (compareOp .Eq) (rEqZ X.K) := by
  intro pins s σ H x y v u Q I rx ry h
  obtain ⟨z, rfl, ⟨d, hd, sd, so, q⟩ | ⟨a, rfl, he, q⟩⟩ := h
  · refine op_eqD hu pins s σ H x (.str z) v u Q I rx ry ⟨d, _, hd, .str z, sd, ?_, q⟩
    show (PyData.strOk z && decide (0 ≤ 64)) = true
    rw [so]
    rfl
  · cases rx
    obtain ⟨t, rfl⟩ := ry
    exact eq_emp I (by omega) he ⟨.bl false, H, I, rfl, q⟩
end AT

set_option maxHeartbeats 4000000
namespace AT
open PySem PySem.Spec PyProof.Rows L2
/-- the law's call, from its def's promise -/
theorem lawO {P : Program} {w : World} {K : PySem.W.Frag} {mg mb : Str → Option Value} {CX : CXT} {k : Nat} {fa a : Addr} {x : Str} {sp : Sp} {st : Shared} {vs : List Value} {ns : List Int}
    (KI : K.In st.heap) (hG : st.heap.Ns mainGlobals mg) (hB : st.heap.Ns builtinsNs mb) (hBb : ∀ x : Str, x ≠ "__name__" → mb x = bootBuiltins x) (hNl : st.heap.NoLimit) (hgs : st.gens = #[])
    (hob : st.heap.get? a = some { cls := .type "list", data := .seq vs.toArray }) (hin : IntsAre vs ns) (hsz : ns.length ≤ sizeLine) (hr : Room k callerA)
    (F : ∀ base : Heap, K.In base → base.Ns mainGlobals mg → ∃ fd, FnG P w K mg base CX k fa fd [x] sp ∧ Binds K fd [x] [])
    (hsp : ∀ H : Hp, Only H → SqL K H a (ns.map V.int) → sp [.ref a] H (fun v _ => v = .bl true) fun _ _ _ => False)
    (hno : ∀ H e s', CX [] H st (fun _ _ _ => False) e s' → False) :
    codeAny (model P w) callerA (.call (.ref fa) ⟨[.ref a], []⟩) (fun r s' => r = .ok (.ret (.bool true)) ∧ OldK st.heap s'.heap ∧ s'.os = st.os ∧ AllBare s'.gens) st := by
  have rv := vals_ints hin
  have main : ∀ H : Hp, Only H → SqL K H a (ns.map V.int) → HOk P w H st.heap → (∀ b, H b ≠ none → b = a) → (H a ≠ none → K.lookup a = none) →
      codeAny (model P w) callerA (.call (.ref fa) ⟨[.ref a], []⟩) (fun r s' => r = .ok (.ret (.bool true)) ∧ OldK st.heap s'.heap ∧ s'.os = st.os ∧ AllBare s'.gens) st := by
    intro H hO hS hok hA hKa
    have free : ∀ {b : Addr} {o : Obj} {es : Array DictEntry} {ep : Nat}, st.heap.get? b = some o → o.data = .dict es ep → H b = none := by
      intro b o es ep e d
      cases q : H b with
      | none => rfl
      | some u =>
        obtain rfl : b = a := hA b (by rw [q]; exact Option.some_ne_none u)
        rw [hob] at e
        cases e
        cases d
    have nsH : ∀ {b : Addr} {m : Str → Option Value}, st.heap.Ns b m → (hidT st.heap H).Ns b m := by
      rintro b m ⟨o, es, ep, e, d, rr⟩
      exact ⟨o, es, ep, hidT_get e (free e d), d, rr⟩
    have KH : K.In (hidT st.heap H) := by
      intro b o e
      refine hidT_get (KI b o e) ?_
      cases q : H b with
      | none => rfl
      | some u =>
        obtain rfl : b = a := hA b (by rw [q]; exact Option.some_ne_none u)
        rw [hKa (by rw [q]; exact Option.some_ne_none u)] at e
        cases e
    have hM : Mod K mg (hidT st.heap H) := by
      obtain ⟨mc, h1, h2⟩ := hNl
      exact ⟨KH, nsH hG, ⟨mb, nsH hB, hBb⟩, ⟨mc, nsH h1, h2⟩⟩
    have e0 : Env0 P w K mg (hidT st.heap H) callerA [] st H :=
      { frames := rfl, mod := hM, bs := fun b o e => of_hidT e, bsz := Nat.le_of_eq (hidT_size _ _), funs := trivial, frf := (by intro b hb; exact absurd hb (by simp [frs])), hok := hok, bare := .of_eq hgs }
    obtain ⟨fd, hF, hbd⟩ := F _ KH (nsH hG)
    refine codeAny_mono (hF.run callerA [] st H ⟨[.ref a], []⟩ [.ref a] [.ref a] _ _ rfl hr e0 (hbd st [.ref a] KI rfl) (.cons rfl .nil) (hsp H hO hS)) fun r s' h => ?_
    cases r with
    | error e => exact (hno H e s' h).elim
    | ok fl =>
      cases fl with
      | ret u =>
        obtain ⟨v, H', eos, br, un, hok', r', q⟩ := h
        obtain rfl : v = .bl true := q
        obtain rfl : u = Value.bool true := r'
        refine ⟨rfl, OldK.of_keep fun b o e => ?_, eos, br⟩
        cases q : H b with
        | none => exact un.keep b o e q (by simp [frs]) (by simp)
        | some u =>
          rcases hO b with z | ⟨ob, xs, z⟩
          · rw [q] at z
            cases z
          · have y2 := (hok' b _ (un.frzs b ob _ z)).1
            have y1 := (hok b _ z).1
            rw [e] at y1
            cases y1
            exact y2
      | _ => exact False.elim h
  cases hk : K.lookup a with
  | some o =>
    have e := KI a o hk
    rw [hob] at e
    cases e
    refine main (fun _ => none) (fun _ => .inl rfl) (.inr ⟨_, vs.toArray, _, hk, rfl, rfl, rfl, ?_, by simpa using rv⟩) ?_ (fun b z => absurd rfl z) fun z => absurd rfl z
    · rw [List.size_toArray, hin.length]
      exact hsz
    · intro b u z
      exact nomatch (show (none : Option HO) = some u from z)
  | none =>
    let o1 : Obj := { cls := .type "list", data := .seq vs.toArray }
    refine main (fun b => if b = a then some (.frz o1 (.lst (ns.map V.int))) else none) (fun b => ?_) (.inl (.inr ⟨o1, if_pos rfl⟩)) (fun b u z => ?_) (fun b z => ?_) fun _ => hk
    · by_cases hb : b = a
      · exact .inr ⟨_, _, if_pos hb⟩
      · exact .inl (if_neg hb)
    · by_cases hb : b = a
      · have y := (if_pos hb).symm.trans z
        cases y
        subst hb
        exact ⟨hob, by rw [List.length_map]; exact hsz, vs, _, rv, hob⟩
      · have y := (if_neg hb).symm.trans z
        cases y
    · by_cases hb : b = a
      · exact hb
      · exact absurd (if_neg hb) z
theorem walkO {l : PySem.W.OpenLaw} {n k : Nat} {q : Program} {loose : List Str} {XP : (Str → Option Value) → Heap → Prop} {YP : World → Heap → Prop} {d : DefRec} {CX : World → CXT} {x : Str}
    (hn : l.most = some n) (hn2 : n ≤ sizeLine) (hdf : d.params.defaults = []) (hr : Room k callerA)
    (F : ∀ (w : World) (mg : Str → Option Value) (fa : Addr) (h : Heap), YP w h → h.Ns mainGlobals mg → mg d.name = some (.ref fa) →
      ∃ (K : PySem.W.Frag) (sp : Sp), K.In h ∧
        (∀ (H : Hp) (a : Addr) (ns : List Int), ns.length ≤ n → Only H → SqL K H a (ns.map V.int) → sp [.ref a] H (fun v _ => v = .bl true) fun _ _ _ => False) ∧
        ∀ base : Heap, K.In base → base.Ns mainGlobals mg → ∃ fd, FnG l.prog w K mg base (CX w) k fa fd [x] sp ∧ Binds K fd [x] [])
    (hno : ∀ (w : World) (H : Hp) (s : Shared) (e : Value) (s' : Shared), CX w [] H s (fun _ _ _ => False) e s' → False) :
    PySem.W.WalkO q loose XP YP l.row.toRowW d [] (fun f vs => PySem.call f vs) := by
  refine Att.attach_call hn hdf fun w _ st mg mb fa o pm cd doc a vs ns G Y _ _ _ hmg hob hin hlen hgs => ?_
  obtain ⟨K, sp, KI, hsp, hF⟩ := F w mg fa _ Y G.T.g hmg
  exact lawO KI G.T.g G.T.b G.T.builtins G.T.nolimit hgs hob hin (Nat.le_trans hlen hn2) hr hF (fun H hO hS => hsp H a ns hlen hO hS) fun H e s' => hno w H st e s'
end AT

set_option maxHeartbeats 4000000
namespace AT
open PySem PySem.Spec PyProof.Rows L2
/-! ### operators by an own class's method -/
def tyNames : List String := ["NoneType", "bool", "int", "str", "list", "tuple", "dict"]
/-- C answers the operator nm by its def f -/
structure OpC (K : PySem.W.Frag) (C f : Addr) (nm : String) : Prop where
  first : PySem.W.selfFirst K C = true
  find : PySem.W.findIn K (.ref C) (PySem.dunder nm) = some (some (.ref f))
  fn : PySem.W.isFn K (.ref f) = true
  back : PySem.W.findIn K (.ref C) (PySem.dunderR nm) = some none
  ty : ∀ T ∈ tyNames, ∃ fo ro, PySem.W.findIn K (.type T) (PySem.dunder nm) = some fo ∧ PySem.W.findIn K (.type T) (PySem.dunderR nm) = some ro ∧ PySem.W.subIn K (.type T) (.ref C) = some false
def opcB (x m : Str) (nm : String) (K : PySem.W.Frag) : Bool :=
  PySem.W.selfFirst K (He.ga K x) && (He.eqO (PySem.W.findIn K (.ref (He.ga K x)) (PySem.dunder nm)) (some (some (.ref (He.ma K (He.ga K x) m)))) && (PySem.W.isFn K (.ref (He.ma K (He.ga K x) m)) && (He.eqO (PySem.W.findIn K (.ref (He.ga K x)) (PySem.dunderR nm)) (some none) &&
    tyNames.all fun T => (PySem.W.findIn K (.type T) (PySem.dunder nm)).isSome && ((PySem.W.findIn K (.type T) (PySem.dunderR nm)).isSome && decide (PySem.W.subIn K (.type T) (.ref (He.ga K x)) = some false)))))
theorem opc_ok {x m : Str} {nm : String} {K : PySem.W.Frag} (h : opcB x m nm K = true) : OpC K (He.ga K x) (He.ma K (He.ga K x) m) nm := by
  unfold opcB at h
  simp only [Bool.and_eq_true, List.all_eq_true] at h
  obtain ⟨h1, h2, h3, h4, h5⟩ := h
  refine ⟨h1, He.eqO_ok h2, h3, He.eqO_ok h4, fun T hT => ?_⟩
  obtain ⟨a, b, c⟩ := h5 T hT
  obtain ⟨fo, ea⟩ := Option.isSome_iff_exists.mp a
  obtain ⟨ro, eb⟩ := Option.isSome_iff_exists.mp b
  exact ⟨fo, ro, ea, eb, of_decide_eq_true c⟩
/-- the other operand of a built-in type -/
theorem bin_ty {prog : Program} {w : World} {A : Around} {E : Value → Shared → Prop} {t : Shared} {K : PySem.W.Frag} {p C f : Addr} {oo : Obj} {od : Option Obj} {op : Operator} {u : Value} {T : String} {R : Value → Shared → Prop}
    (KI : K.In t.heap) (J : PySem.W.InstAt t.heap p oo C od) (hu : PySem.W.Looks (model prog w) t.heap (typeOf u) (.type T)) (O : OpC K C f op.info.2) (hT : T ∈ tyNames)
    (go : wpAny (model prog w) A (call (.ref f) [.ref p, u]) (PySem.W.CmpBack R) E t) : wpAny (model prog w) A (binaryOp op (.ref p) u) R E t := by
  obtain ⟨fo, ro, e1, e2, e3⟩ := O.ty T hT
  obtain ⟨cd, rest, ec, em⟩ := PySem.W.ksp_first O.first
  have first := O.find
  have back := O.back
  have fnn := O.fn
  rcases ei : op.info with ⟨sy, nm⟩
  rw [ei] at first back e1 e2
  dsimp only at first back e1 e2
  have turn := PySem.W.ksp_try KI J first fnn go
  obtain ⟨g0, g1, g2, g3, g4⟩ := t
  have k1 : PySem.W.Looks (model prog w) g0 (typeOf (.ref p)) (.ref C) := J.type
  have k2 : PySem.W.Looks (model prog w) g0 (typeOf u) (.type T) := hu
  have k3 : PySem.W.Looks (model prog w) g0 (fillsNumberSlot (.ref C) nm) true := PySem.W.fills_K KI ec em first
  have k4 : PySem.W.Looks (model prog w) g0 (fillsNumberSlot (.type T) nm) ((fo.isSome && !isSeqSlot fo) || (ro.isSome && !isSeqSlot ro)) := PySem.W.ksp_fillsT KI e1 e2
  have k5 : PySem.W.Looks (model prog w) g0 (isSubtype (.type T) (.ref C)) false := PySem.W.looks_subIn KI e3
  have k6 : PySem.W.Looks (model prog w) g0 (numberSlotInPython (.ref C) nm) true := PySem.W.ksp_inPy KI first back (.inl rfl)
  have k7 : PySem.W.Looks (model prog w) g0 (numberSlotInPython (.type T) nm) false := PySem.W.Looks.of_pure rfl
  have k8 : PySem.W.Looks (model prog w) g0 (typeLookup (.type T) (dunderR nm)) ro := PySem.W.looks_findIn KI e2
  generalize ((fo.isSome && !isSeqSlot fo) || (ro.isSome && !isSeqSlot ro)) = rr at k4
  have ne : (Value.ref C == Value.type T) = false := Bool.eq_false_iff.mpr fun z => by cases beq_iff_eq.mp z
  simp only [binaryOp, ei]
  refine wpAny_holding (wpAny_bind ?_)
  unfold binaryOp1
  refine wpAny_bind (k1.at (wpAny_bind (k2.at (wpAny_bind (k3.at ?_)))))
  simp only [ne, Bool.false_eq_true, if_false]
  cases rr
  all_goals
    ksp_lk
    refine wpAny_mono turn (fun r t' z => ?_) fun _ _ z => z
    obtain ⟨v, rfl, z⟩ := z
    ksp_lk
    exact z
/-- x op y by the def of x's class -/
def rOwn (K : PySem.W.Frag) (C : Addr) (sp : Sp) (E : XK) : R2 := fun x y H Q => ∃ p d fs t, x = .ref p ∧ H p = some (.ins C d fs) ∧ TyX K H y t ∧ (t = .ref C ∨ ∃ T, t = .type T ∧ T ∈ tyNames) ∧ sp [.ref p, y] H Q E
theorem ep_back {X : Cx} {pins : List (Addr × Obj)} {σ : L2.St} {Q : VK} {v : Value} {s : Shared} (h : EP X pins σ Q v s) : PySem.W.CmpBack (EP X pins σ Q) v s := by
  obtain ⟨x, H, I, r, q⟩ := id h
  cases v with
  | notImplemented =>
    cases x <;> first | exact nomatch r | (obtain ⟨_, z⟩ := r; exact nomatch z)
  | _ => exact h
section
variable {X : Cx} {C f : Addr} {k : Nat} {ps : List Str} {sp : Sp} {E : XK}
theorem op_own {op : Operator} (O : OpC X.K C f op.info.2) (F : Ok X.prog X.w X.K X.mg X.base k f ps sp) (hr : Room k X.A) (hx : Passes (L2.CX X.prog X.w) X E) : OpR X (binaryOp op) (rOwn X.K C sp E) := by
  intro pins s σ H x y v u Q I rx ry h
  obtain ⟨p, d, fs, t, rfl, hp, ty, ht, hsp⟩ := h
  obtain ⟨fd, F1, b, kp⟩ := F
  cases rx
  obtain ⟨mA, J, _⟩ := ins_get I.hok hp
  obtain ⟨od, J, _⟩ := J.look
  obtain ⟨P, kx, hP, _⟩ := kit_of I ry ty
  have look : PySem.W.Looks (model X.prog X.w) s.heap (typeOf u) t := kx.ty _ _ I.kIn hP
  have run : wpAny (model X.prog X.w) X.A (call (.ref f) [.ref p, u]) (PySem.W.CmpBack (EP X pins σ Q)) X.xe s :=
    wpAny_mono (run_fn (us := [.ref p, u]) (vs := [.ref p, y]) (ds := []) (dvs := []) F1 hr b .nil hx I (.cons rfl (.cons ry .nil)) hsp) (fun _ _ z => ep_back z) fun _ _ z => z
  rcases ht with rfl | ⟨T, rfl, hT⟩
  · obtain ⟨m, hF⟩ := I.fr
    exact PySem.W.binop_K hF I.ok.mod.kin J look O.first O.find O.fn run
  · exact bin_ty I.kIn J look O hT run
/-- -x by the def of x's class -/
def rOwn1 (C : Addr) (sp : Sp) (E : XK) : V → Hp → VK → Prop := fun x H Q => ∃ p d fs, x = .ref p ∧ H p = some (.ins C d fs) ∧ sp [.ref p] H Q E
theorem un_own (hs : PySem.W.findIn X.K (.ref C) "__neg__" = some (some (.ref f))) (hf : PySem.W.isFn X.K (.ref f) = true) (F : Ok X.prog X.w X.K X.mg X.base k f ps sp) (hr : Room k X.A) (hx : Passes (L2.CX X.prog X.w) X E) : UnR X (unaryOp .USub) (rOwn1 C sp E) := by
  intro pins s σ H x v Q I rx h
  obtain ⟨p, d, fs, rfl, hp, hsp⟩ := h
  obtain ⟨fd, F1, b, kp⟩ := F
  cases rx
  obtain ⟨mA, J, _⟩ := ins_get I.hok hp
  obtain ⟨od, J, _⟩ := J.look
  obtain ⟨m, hF⟩ := I.fr
  exact PySem.W.ksp_neg hF I.ok.mod.kin J hs hf (run_fn (us := [.ref p]) (vs := [.ref p]) (ds := []) (dvs := []) F1 hr b .nil hx I (.cons rfl .nil) hsp)
end
end AT

set_option maxHeartbeats 4000000
namespace AT
open PySem PySem.Spec PyProof.Rows L2
/-! ### == and != by an own class's __eq__ -/
structure EqC (K : PySem.W.Frag) (C f : Addr) : Prop where
  find : PySem.W.findIn K (.ref C) "__eq__" = some (some (.ref f))
  fn : PySem.W.isFn K (.ref f) = true
  sub : ∀ T ∈ tyNames, PySem.W.subIn K (.type T) (.ref C) = some false
  ne : PySem.W.findIn K (.ref C) "__ne__" = some (some (.builtin "object.__ne__"))
  obj : PySem.W.mroIn K C (.type "object") = some true
def eqcB (x : Str) (K : PySem.W.Frag) : Bool :=
  He.eqO (PySem.W.findIn K (.ref (He.ga K x)) "__eq__") (some (some (.ref (He.ma K (He.ga K x) "__eq__")))) && (PySem.W.isFn K (.ref (He.ma K (He.ga K x) "__eq__")) && ((tyNames.all fun T => decide (PySem.W.subIn K (.type T) (.ref (He.ga K x)) = some false)) &&
    (He.eqO (PySem.W.findIn K (.ref (He.ga K x)) "__ne__") (some (some (.builtin "object.__ne__"))) && decide (PySem.W.mroIn K (He.ga K x) (.type "object") = some true))))
theorem eqc_ok {x : Str} {K : PySem.W.Frag} (h : eqcB x K = true) : EqC K (He.ga K x) (He.ma K (He.ga K x) "__eq__") := by
  unfold eqcB at h
  simp only [Bool.and_eq_true, List.all_eq_true] at h
  obtain ⟨h1, h2, h3, h4, h5⟩ := h
  exact ⟨He.eqO_ok h1, h2, fun T hT => of_decide_eq_true (h3 T hT), He.eqO_ok h4, of_decide_eq_true h5⟩
section
variable {X : Cx} {C f : Addr} {k : Nat} {ps : List Str} {sp : Sp} {E : XK}
/-- the callee runs a little deeper in C -/
theorem run_in {A : Around} {fd : FuncData} {pins : List (Addr × Obj)} {σ : L2.St} {H : Hp} {s : Shared} {Q : VK} {us : List Value} {vs : List V} (hA : A.frames = X.A.frames) (F : FnOk X.prog X.w X.K X.mg X.base (L2.CX X.prog X.w) k f fd ps sp) (hr : Room k A) (hb : Binds X.K fd ps [])
    (hx : Passes (L2.CX X.prog X.w) X E) (I : Inv X pins σ H s) (r : Vals vs us) (h : sp vs H Q E) : wpAny (model X.prog X.w) A (call (.ref f) us) (EP X pins σ Q) X.xe s := by
  have hl : us.length = ps.length := by rw [← r.length]; exact F.len _ _ _ _ h
  have e := I.env0
  have e0 : Env0 X.prog X.w X.K X.mg X.base A X.stack s H := ⟨by rw [hA]; exact e.frames, e.mod, e.bs, e.bsz, e.funs, e.frf, e.hok, e.bare⟩
  have b := hb s us I.kIn (by simpa using hl)
  rw [List.append_nil] at b
  refine wpAny_call (codeAny_mono (F.run A X.stack s H ⟨us, []⟩ us vs Q E hr e0 b r h) fun res s' hq => ?_)
  cases res with
  | error er => exact hx pins σ H s er s' I hq
  | ok fl =>
    cases fl with
    | ret u => exact I.after hq
    | _ => exact False.elim hq
def OfTy (K : PySem.W.Frag) (H : Hp) (C : Addr) (y : V) : Prop := ∃ t, TyX K H y t ∧ (t = .ref C ∨ ∃ T, t = .type T ∧ T ∈ tyNames)
def rEqO (K : PySem.W.Frag) (C : Addr) (sp : Sp) (E : XK) : R2 := fun x y H Q => ∃ p d fs, x = .ref p ∧ H p = some (.ins C d fs) ∧ OfTy K H C y ∧ sp [.ref p, y] H Q E
def rNeO (K : PySem.W.Frag) (C : Addr) (sp : Sp) (E : XK) : R2 := fun x y H Q => ∃ p d fs, x = .ref p ∧ H p = some (.ins C d fs) ∧ OfTy K H C y ∧ sp [.ref p, y] H (fun v H' => ∃ b, v = .bl b ∧ Q (.bl !b) H') E
theorem not_first {K : PySem.W.Frag} {t : Value} (O : EqC K C f) (h : t = .ref C ∨ ∃ T, t = .type T ∧ T ∈ tyNames) : PySem.W.notFirst K C t = true := by
  unfold PySem.W.notFirst
  rcases h with rfl | ⟨T, rfl, hT⟩
  · simp
  · rw [O.sub T hT]
    simp
theorem op_eqO (O : EqC X.K C f) (F : Ok X.prog X.w X.K X.mg X.base k f ps sp) (hr : Room k X.A) (hx : Passes (L2.CX X.prog X.w) X E) : OpR X (compareOp .Eq) (rEqO X.K C sp E) := by
  intro pins s σ H x y v u Q I rx ry h
  obtain ⟨p, d, fs, rfl, hp, ⟨t, ty, ht⟩, hsp⟩ := h
  obtain ⟨fd, F1, b, kp⟩ := F
  cases rx
  obtain ⟨mA, J, _⟩ := ins_get I.hok hp
  obtain ⟨od, J, _⟩ := J.look
  obtain ⟨P, kx, hP, _⟩ := kit_of I ry ty
  obtain ⟨m, hF⟩ := I.fr
  exact PySem.W.cmp_K (op := .Eq) hr.units0 hF I.ok.mod.kin J (kx.ty _ _ I.kIn hP) (not_first O ht) O.find O.fn
    (wpAny_mono (run_in (us := [.ref p, u]) (vs := [.ref p, y]) rfl F1 hr b hx I (.cons rfl (.cons ry .nil)) hsp) (fun _ _ z => ep_back z) fun _ _ z => z)
/-- object.__ne__ of an instance asks its class's __eq__ -/
theorem ne_body {prog : Program} {w : World} {A : Around} {E1 : Value → Shared → Prop} {t : Shared} {K : PySem.W.Frag} {p C f : Addr} {oo : Obj} {od : Option Obj} {u : Value} {R : Fin → Shared → Prop} (KI : K.In t.heap) (J : PySem.W.InstAt t.heap p oo C od) (O : EqC K C f) (hu : A.units < cLine)
    (go : wpAny (model prog w) A (call (.ref f) [.ref p, u]) (fun v t' => ∃ b, v = .bool b ∧ R (.done (.ret (.bool (!b)))) t') E1 t) : wpAny (model prog w) A (Builtin.«object.__ne__» ⟨[.ref p, u], []⟩) R E1 t := by
  unfold Builtin.«object.__ne__»
  show wpAny _ _ (cRoomFor "comparison" [.ref p, u] >>= _) _ _ _
  refine wpAny_bind (wpAny_cRoomFor hu ?_)
  refine wpAny_bind (m := callSpecialIfBound? (.ref p) (Str.ofString "__eq__") [u]) (PySem.W.ifBound_K KI J O.find O.fn (wpAny_mono go (fun v t' z => ?_) fun _ _ z => z))
  obtain ⟨b, rfl, z⟩ := z
  exact wpAny_bind (wpAny_truthy_bool (wpAny_pure z))
theorem ne_bound {M : Model} {A : Around} {E1 : Value → Shared → Prop} {t : Shared} {K : PySem.W.Frag} {p C : Addr} {oo : Obj} {od : Option Obj} {us : List Value} {R : Option Value → Shared → Prop} (KI : K.In t.heap) (J : PySem.W.InstAt t.heap p oo C od)
    (hs : PySem.W.findIn K (.ref C) "__ne__" = some (some (.builtin "object.__ne__"))) (go : wpAny M A (call (.builtin "object.__ne__") (.ref p :: us)) (fun v => R (some v)) E1 t) : wpAny M A (callSpecialIfBound? (.ref p) "__ne__" us) R E1 t := by
  simp only [callSpecialIfBound?, bindSpecialIfBound?]
  refine wpAny_holding (wpAny_bind (wpAny_bind (wpAny_bind (J.type.here ((PySem.W.looks_findIn KI hs).here ?_)))))
  refine wpAny_bind (wpAny_askSetting (wpAny_ite ?_))
  have last : wpAny M A (call (.builtin "object.__ne__") ([.ref p] ++ us) >>= fun v => pure (some v)) R E1 t := wpAny_bind (wpAny_mono go (fun v t' z => wpAny_pure z) fun _ _ z => z)
  split
  · exact wpAny_bind (wpAny_of_eq (F.cmp_object.ne.bind _) (wpAny_pure (by exact last)))
  · exact wpAny_tryCatch (wpAny_bind (wpAny_of_eq (F.cmp_object.ne.bind _) (wpAny_pure (by exact last))))
theorem ne_own {prog : Program} {w : World} {A : Around} {E1 : Value → Shared → Prop} {t : Shared} {K : PySem.W.Frag} {p C f : Addr} {oo : Obj} {od : Option Obj} {u ty : Value} {R : Value → Shared → Prop} (KI : K.In t.heap) (J : PySem.W.InstAt t.heap p oo C od) (O : EqC K C f) (hu : A.units + 1 < cLine)
    (hty : PySem.W.Looks (model prog w) t.heap (typeOf u) ty) (hn : PySem.W.notFirst K C ty = true)
    (go : wpAny (model prog w) A.in1 (call (.ref f) [.ref p, u]) (fun v t' => ∃ b, v = .bool b ∧ R (.bool (!b)) t') E1 t) : wpAny (model prog w) A (compareOp .NotEq (.ref p) u) R E1 t := by
  have turn : wpAny (model prog w) A (tryCompare (.ref p) "__ne__" u) (fun r t' => ∃ v, r = some v ∧ R v t') E1 t := by
    unfold tryCompare
    refine wpAny_bind (ne_bound KI J O.ne (wpAny_call (codeAny_call_builtin F.cmp_object.ne.plain F.cmpEntry_ne (PySem.W.check_slot F.cmpKind_ne F.cmpSplit_ne (J.type.andThen (PySem.W.looks_mroIn KI O.obj)) (F.cmpArgs_ne _ _)
      (ne_body (A := A.in1) KI J O hu (wpAny_mono go (fun v t' z => ?_) fun _ _ z => z))))))
    obtain ⟨b, rfl, z⟩ := z
    exact ⟨b, rfl, wpAny_pure ⟨_, rfl, z⟩⟩
  show wpAny _ _ (richCompare .NotEq _ _) _ _ _
  simp only [richCompare, cmpInfo_NotEq, oneThing_ref]
  refine wpAny_holding (wpAny_bind (wpAny_cRoomFor (Nat.lt_of_succ_lt hu) ?_))
  refine wpAny_bind (J.type.here (wpAny_bind (hty.here ?_)))
  split
  · rename_i z
    have e : PySem.W.subIn K ty (.ref C) = some false := by
      rcases Bool.or_eq_true_iff.mp hn with e | e
      · rw [beq_iff_eq.mp e] at z
        simp at z
      · exact beq_iff_eq.mp e
    refine wpAny_bind ((PySem.W.looks_subIn KI e).here ?_)
    simp only [Bool.false_eq_true, if_false]
    refine wpAny_bind (wpAny_mono turn (fun r t' y => ?_) fun _ _ y => y)
    obtain ⟨v, rfl, y⟩ := y
    exact wpAny_pure y
  · refine wpAny_bind (wpAny_pure ?_)
    simp only [Bool.false_eq_true, if_false]
    refine wpAny_bind (wpAny_mono turn (fun r t' y => ?_) fun _ _ y => y)
    obtain ⟨v, rfl, y⟩ := y
    exact wpAny_pure y
theorem op_neO (O : EqC X.K C f) (F : Ok X.prog X.w X.K X.mg X.base k f ps sp) (hr : Room (k + 1) X.A) (hx : Passes (L2.CX X.prog X.w) X E) : OpR X (compareOp .NotEq) (rNeO X.K C sp E) := by
  intro pins s σ H x y v u Q I rx ry h
  obtain ⟨p, d, fs, rfl, hp, ⟨t, ty, ht⟩, hsp⟩ := h
  obtain ⟨fd, F1, b, kp⟩ := F
  cases rx
  obtain ⟨mA, J, _⟩ := ins_get I.hok hp
  obtain ⟨od, J, _⟩ := J.look
  obtain ⟨P, kx, hP, _⟩ := kit_of I ry ty
  refine ne_own I.kIn J O (by have := hr.un; omega) (kx.ty _ _ I.kIn hP) (not_first O ht) (wpAny_mono (run_in (A := X.A.in1) (us := [.ref p, u]) (vs := [.ref p, y]) rfl F1 hr.in1 b hx I (.cons rfl (.cons ry .nil)) hsp) (fun v s' z => ?_) fun _ _ z => z)
  obtain ⟨xv, H', I', rz, bb, rfl, q⟩ := z
  cases rz
  exact ⟨bb, rfl, .bl _, H', I', rfl, q⟩
end
end AT

set_option maxHeartbeats 4000000
namespace AT
open PySem PySem.Spec PyProof.Rows L2
section
variable {X : Cx} {k : Nat} {f C : Addr} {ps : List Str} {sp : Sp} {dvs : List V} {E : XK} {x m : Str} {p pos apos : Pos} {e o : Expr} {es : List Expr} {ta : TE} {t : TA}
/-- o.m(..) -/
theorem ok_meth {pl : Sem Bool} (c : Cls X.K C) (hm : Meth X.K C m f) (F : Ok X.prog X.w X.K X.mg X.base k f ps sp) (hr : Room k X.A) (hx : Passes (L2.CX X.prog X.w) X E) (he : PE X o ta) (ha : PA X (e :: es) t)
    (hst : starEach (e :: es) X.env = (false, eval e X.env) :: starEach es X.env := by rfl) (hpl : (backTo pos (starEach es X.env)).any (·.1) = false := by rfl)
    (ht : eval (.Call (.Attribute o m apos) (e :: es) [] pos) X.env = (do
      let w0 ← eval o X.env
      standAt apos.atName
      let (g0, us0) ← holding [w0] (getMethod w0 m pl)
      callWith pos g0 us0 (backTo pos (starEach (e :: es) X.env)) (backToKw pos (keywordEach [] X.env))) := by rfl) :
    PE X (.Call (.Attribute o m apos) (e :: es) [] pos) (tMeth C m sp [] E ta t) := by
  obtain ⟨fd, F1, b, kp⟩ := F
  exact pe_meth he c hm F1 hr b .nil hx ha hst hpl ht
theorem ok_meth0 {pl : Sem Bool} (c : Cls X.K C) (hm : Meth X.K C m f) (F : Ok X.prog X.w X.K X.mg X.base k f ps sp) (hr : Room k X.A) (hx : Passes (L2.CX X.prog X.w) X E) (he : PE X o ta)
    (ht : eval (.Call (.Attribute o m apos) [] [] pos) X.env = (do
      let w0 ← eval o X.env
      standAt apos.atName
      let (g0, us0) ← holding [w0] (getMethod w0 m pl)
      callWith pos g0 us0 (backTo pos (starEach [] X.env)) (backToKw pos (keywordEach [] X.env))) := by rfl) :
    PE X (.Call (.Attribute o m apos) [] [] pos) (tMeth C m sp [] E ta tNil) := by
  obtain ⟨fd, F1, b, kp⟩ := F
  exact pe_meth0 he c hm F1 hr b .nil hx ht
end
/-! ### lists of the very same objects and of flat values -/
def EqPair (x y : V) (b : Bool) : Prop := (∃ a, x = .ref a ∧ y = .ref a ∧ b = true) ∨ (flatV x = true ∧ flatV y = true ∧ b = eqV x y)
theorem EqPair.at {A : Around} {s : Shared} {x y : V} {u v : Value} {b : Bool} (h : EqPair x y b) (rx : RelV x u) (ry : RelV y v) : SeqAt.EqAt A s u v b := by
  rcases h with ⟨a, rfl, rfl, rfl⟩ | ⟨h1, h2, rfl⟩
  · cases rx
    cases ry
    exact SeqAt.EqAt.same _
  · exact eqAt_V rx ry h1 h2
def AlikeL (K : PySem.W.Frag) (x y : V) (H : Hp) (e : Nat → Bool) (n : Nat) : Prop := ∃ a b xs ys, x = .ref a ∧ y = .ref b ∧ SqL K H a xs ∧ SqL K H b ys ∧ xs.length = n ∧ ys.length = n ∧ ∀ i x y, xs[i]? = some x → ys[i]? = some y → EqPair x y (e i)
def rEqI (K : PySem.W.Frag) : R2 := fun x y H Q => ∃ e n, AlikeL K x y H e n ∧ Q (.bl ((List.range n).all e)) H
def rNeI (K : PySem.W.Frag) : R2 := fun x y H Q => ∃ e n, AlikeL K x y H e n ∧ Q (.bl (!(List.range n).all e)) H
section
variable {X : Cx}
theorem alike_lists {pins : List (Addr × Obj)} {σ : L2.St} {H : Hp} {s : Shared} {x y : V} {u v : Value} {e : Nat → Bool} {n : Nat} (I : Inv X pins σ H s) (rx : RelV x u) (ry : RelV y v) (h : AlikeL X.K x y H e n) :
    ∃ (a b : Addr) (is js : Array Value), u = .ref a ∧ v = .ref b ∧ s.heap.IsList a is ∧ s.heap.IsList b js ∧ is.size = n ∧ js.size = n ∧ ∀ (A : Around) j (h1 : j < is.size) (h2 : j < js.size), SeqAt.EqAt A s is[j] js[j] (e j) := by
  obtain ⟨a, b, xs, ys, rfl, rfl, ha, hb, la, lb, hp⟩ := h
  cases rx
  cases ry
  obtain ⟨its, rv, pl, _⟩ := I.list ha
  obtain ⟨jts, rw, ql, _⟩ := I.list hb
  refine ⟨a, b, its.toArray, jts.toArray, rfl, rfl, pl.isList, ql.isList, ?_, ?_, fun A j h1 h2 => ?_⟩
  · rw [List.size_toArray, ← rv.length]; exact la
  · rw [List.size_toArray, ← rw.length]; exact lb
  · rw [List.size_toArray] at h1 h2
    have g1 : j < xs.length := by rw [rv.length]; exact h1
    have g2 : j < ys.length := by rw [rw.length]; exact h2
    obtain ⟨u1, e1, r1⟩ := rv.get (List.getElem?_eq_getElem g1)
    obtain ⟨u2, e2, r2⟩ := rw.get (List.getElem?_eq_getElem g2)
    rw [List.getElem?_eq_getElem h1] at e1
    rw [List.getElem?_eq_getElem h2] at e2
    cases e1
    cases e2
    exact (hp j _ _ (List.getElem?_eq_getElem g1) (List.getElem?_eq_getElem g2)).at r1 r2
theorem op_eqI (hu : X.A.units + 64 < cLine) : OpR X (compareOp .Eq) (rEqI X.K) := by
  intro pins s σ H x y v u Q I rx ry h
  obtain ⟨e, n, al, q⟩ := h
  obtain ⟨a, b, is, js, rfl, rfl, l1, l2, n1, n2, el⟩ := alike_lists I rx ry al
  refine (SeqAt.RcAt.lists (e := e) l1 l2 (by rw [n1, n2]) (by omega) (el _)) X.prog X.w X.xe _ ?_
  rw [n1]
  exact ⟨.bl _, H, I, rfl, q⟩
theorem op_neI (hu : X.A.units + 64 < cLine) : OpR X (compareOp .NotEq) (rNeI X.K) := by
  intro pins s σ H x y v u Q I rx ry h
  obtain ⟨e, n, al, q⟩ := h
  obtain ⟨a, b, is, js, rfl, rfl, l1, l2, n1, n2, el⟩ := alike_lists I rx ry al
  refine (SeqAt.RcNeAt.lists (e := e) l1 l2 (by rw [n1, n2]) (by omega) (el _)) X.prog X.w X.xe _ ?_
  rw [n1]
  exact ⟨.bl _, H, I, rfl, q⟩
end
/-- what is never reached -/
theorem pe_never {X : Cx} {e : Expr} : PE X e (fun _ _ _ => False) := ⟨fun _ _ _ _ _ _ z => z.elim⟩
/-! ### defaults that are objects -/
def dflA (loc : PySem.W.Frag → Addr) (i : Nat) (K : PySem.W.Frag) : Addr := match K.lookup (loc K) with
  | some ⟨_, _, .func u, _⟩ => (match u.defaults with
    | .ref T => (match K.lookup T with
      | some ⟨_, _, .seq its _, _⟩ => (match its[i]? with
        | some (.ref a) => a
        | _ => 0)
      | _ => 0)
    | _ => 0)
  | _ => 0
def tup0B (a : PySem.W.Frag → Addr) (K : PySem.W.Frag) : Bool := match K.lookup (a K) with
  | some ⟨.type "tuple", _, .seq its _, _⟩ => its.isEmpty
  | _ => false
theorem tup0_ok {a : PySem.W.Frag → Addr} {K : PySem.W.Frag} (h : tup0B a K = true) (H : Hp) : SqT K H (a K) [] := by
  unfold tup0B at h
  split at h
  · rename_i d its n sl e
    have z : its = #[] := by simpa using h
    subst z
    exact .inr ⟨_, _, _, e, rfl, rfl, Nat.zero_le _, .nil⟩
  · cases h
end AT

set_option maxHeartbeats 4000000
/-! [elt for .. in ..], the block captures nothing and a call in it may raise -/
namespace AT
open PySem PySem.Spec PyProof.Rows L2
theorem relab_self {scope : Scope} {env : Env} (hf : ∀ y ∈ scope.names, y.2 ≠ .free) : relabel scope env = scope := by
  unfold relabel
  rw [map_eq_self (l := scope.names) (fun x hx => by
    obtain ⟨n, k⟩ := x
    have : (k == NameKind.free) = false := by simpa using hf _ hx
    simp [this])]
theorem clo_none {cells : List (Str × Addr)} : ∀ (names : List (Str × NameKind)) (acc : List (Str × Addr)), (∀ y ∈ names, y.2 ≠ .free) → cloFrom cells names acc = acc
  | [], _, _ => rfl
  | (n, k) :: r, acc, hf => by
    have : (k == NameKind.free) = false := by simpa using hf (n, k) (List.mem_cons_self ..)
    unfold cloFrom
    rw [this]
    exact clo_none r acc fun y hy => hf y (List.mem_cons_of_mem _ hy)
theorem thnF2 {α : Type} {t : Sem α} {Q : α → Shared → Prop} {M : Model} {A : Around} {E : Value → Shared → Prop} {s : Shared} (h : wpAny M A t (fun _ _ => False) E s) : wpAny M A t Q E s := wpAny_mono h (fun _ _ z => False.elim z) fun _ _ z => z
section
variable {X : Cx}
theorem lc_coreR {pins : List (Addr × Obj)} {s : Shared} {σ : L2.St} {H : Hp} {Q : VK} {elt tg iter : Expr} {ifs : List Expr} {scope : Scope} {own : List (Str × Nat)} {pos : Pos} {wi : TI} {g : TG} {tt : TT} {te : TE} {E : XK}
    {R : Value → Env → Result → Shared → Prop}
    (hstk : X.stack = X.env :: X.outer) (hfrm : X.env.frame = some X.env.locals) (htk : Takes X (fun c d _ G => E c d G)) (hnf : ∀ y ∈ scope.names, y.2 ≠ .free)
    (hc : X.calm = true) (hN : X.N.Nodup) (I : Inv X pins σ H s) (hi : PI X tg iter wi) (ok : BlkOk X.N X.env.scope scope own)
    (hg : ∀ (s : Shared) (H : Hp) (C : Addr) (cl : List (Str × Addr)) (fp : List Addr) (xe : Value → Shared → Prop), PG (BkR X s H scope (compEnvC scope cl C X.env) fp xe) tg g)
    (ht : ∀ (s : Shared) (H : Hp) (C : Addr) (cl : List (Str × Addr)) (fp : List Addr) (xe : Value → Shared → Prop), PTs (BkR X s H scope (compEnvC scope cl C X.env) fp xe) ifs tt)
    (he : ∀ (s : Shared) (H : Hp) (C : Addr) (cl : List (Str × Addr)) (fp : List Addr) (xe : Value → Shared → Prop), Passes (L2.CX X.prog X.w) (BkR X s H scope (compEnvC scope cl C X.env) fp xe) E → PE (BkR X s H scope (compEnvC scope cl C X.env) fp xe) elt te)
    (h : tLc wi g tt te (own.map (·.2)) σ H Q)
    (hOk : ∀ D (ce : Env) s' m H', Inv X pins σ H' s' → Q (.ref D) H' → s'.heap.Ns ce.locals m → FpOk X pins H' ce.locals → R (.ref D) ce (.ok .next) s')
    (hEr : ∀ D (ce : Env) x s', (∃ m, s'.heap.Ns ce.locals m ∧ ∀ g, Heap.SameBut ce.locals s'.heap g → wpAny (model X.prog X.w) X.A (passOn "comprehension.variables-let-go" x ce : Sem Value) (fun _ _ => False) X.xe { s' with heap := g }) → R (.ref D) ce (.error x) s') :
    wpAny (model X.prog X.w) X.A (eval iter X.env) (fun x s₁ => wpAny (model X.prog X.w) X.A (pyIter x) (fun it s₂ => wpAny (model X.prog X.w) X.A (newList []) (fun acc s₃ =>
      wpAny (model X.prog X.w) X.A (newFunctionEnv scope X.env.globals [] [] X.env.qual none .none (some X.env)) (fun cenv s₄ =>
        codeAny (model X.prog X.w) X.A (.compStart (.ListComp elt [⟨tg, iter, ifs, 0⟩] scope pos) 0 it acc { cenv with scope := scope }) (R acc { cenv with scope := scope }) s₄) X.xe s₃) X.xe s₂) X.xe s₁) X.xe s := by
  refine thn (hi.run pins s σ H _ I h) fun xv s1 hx => thn hx fun itv s2 h2 => ?_
  obtain ⟨it, fp, tn, J, H2, e, I2, T, st2, f2, q⟩ := h2
  subst e
  refine wpAny_newObj_type (newEnv_comp ?_) (by show 0 ≤ sizeLine; decide)
  generalize hD : s2.heap.objs.size = D
  have hDn : H2 D = none := I2.hok.fresh (Nat.le_of_eq hD)
  obtain ⟨W, ⟨m0, w0⟩, turn⟩ := q D hDn
  generalize hs3 : ({ s2 with heap := s2.heap.push { cls := .type "list", data := .seq ([] : List Value).toArray } } : Shared) = s3
  have I3 : Inv X pins σ (upd H2 D (.lst [])) s3 := by
    rw [← hs3]
    refine I2.laid (t' := s2.toks) (fun b o e => Heap.get?_push_of_some _ e) (Nat.le_of_eq hD) ⟨Nat.zero_le _, [], 0, .nil, ?_⟩
    rw [← hD]
    exact Heap.get?_push_size _ rfl
  have h3 : s3.heap = s2.heap.push { cls := .type "list", data := .seq ([] : List Value).toArray } := by rw [← hs3]
  have sz : ∀ b ∈ fp, b < s2.heap.objs.size := fun b hb => by
    obtain ⟨o, e, _⟩ := T.obj _ _ st2 b hb
    exact Heap.lt_size e
  have f3 : ∀ b ∈ fp, FpOk X pins (upd H2 D (.lst [])) b ∧ b < s3.heap.objs.size := fun b hb => by
    have hlt := sz b hb
    refine ⟨⟨?_, (f2 b hb).2⟩, by rw [h3, Heap.size_push]; exact Nat.lt_succ_of_lt hlt⟩
    rw [upd_ne (by rw [← hD]; exact Nat.ne_of_lt hlt)]
    exact (f2 b hb).1
  have st3 : tn 0 s3.heap := T.keep _ _ _ st2 fun b _ o e => by rw [h3]; exact Heap.get?_push_of_some _ e
  have I4 := block_start I3 ok hN f3
  have hEnv : ({ newEnv scope s3.heap.objs.size X.env.globals (cellsFrom (s3.heap.objs.size + 1) scope.names []) X.env.qual none .none (some X.env) X.env.builtins with scope := scope } : Env)
      = compEnvC scope (cellsFrom (s3.heap.objs.size + 1) scope.names (cloFrom X.env.cells scope.names [])) s3.heap.objs.size X.env := by
    rw [clo_none _ _ hnf]
    unfold compEnvC
    rw [relab_self hnf]
    rfl
  show codeAny _ _ (.compStart (.ListComp elt [⟨tg, iter, ifs, 0⟩] scope pos) 0 (.ref it) (.ref D) ({ newEnv scope s3.heap.objs.size X.env.globals (cellsFrom (s3.heap.objs.size + 1) scope.names []) X.env.qual none .none (some X.env) X.env.builtins with scope := scope } : Env))
    (R (.ref D) ({ newEnv scope s3.heap.objs.size X.env.globals (cellsFrom (s3.heap.objs.size + 1) scope.names []) X.env.qual none .none (some X.env) X.env.builtins with scope := scope } : Env)) { s3 with heap := pushCells (s3.heap.push { cls := .type "dict", data := .dict #[] }) scope.names }
  rw [hEnv]
  have pg := hg s3 (upd H2 D (.lst [])) s3.heap.objs.size (cellsFrom (s3.heap.objs.size + 1) scope.names (cloFrom X.env.cells scope.names [])) fp
  have pt := ht s3 (upd H2 D (.lst [])) s3.heap.objs.size (cellsFrom (s3.heap.objs.size + 1) scope.names (cloFrom X.env.cells scope.names [])) fp
  have pe := he s3 (upd H2 D (.lst [])) s3.heap.objs.size (cellsFrom (s3.heap.objs.size + 1) scope.names (cloFrom X.env.cells scope.names [])) fp
  have nfp : ∀ b ∈ fp, (upd H2 D (.lst [])) b = none := fun b hb => (f3 b hb).1.1
  generalize hce : compEnvC scope (cellsFrom (s3.heap.objs.size + 1) scope.names (cloFrom X.env.cells scope.names [])) s3.heap.objs.size X.env = ce at I4 pg pt pe ⊢
  have cL : ce.locals = s3.heap.objs.size := by subst hce; rfl
  have cF : ce.frame = X.env.frame := by subst hce; rfl
  generalize hH3 : upd H2 D (.lst []) = H3 at I3 I4 pg pt pe w0 nfp f3
  generalize hs4 : ({ s3 with heap := pushCells (s3.heap.push { cls := .type "dict", data := .dict #[] }) scope.names } : Shared) = s4 at I4 ⊢
  have st4 : tn 0 s4.heap := T.keep _ _ _ st3 fun b _ o e => by rw [← hs4]; exact pushCells_keeps _ _ _ _ (Heap.get?_push_of_some _ e)
  -- the wish
  let xe : Value → Shared → Prop := fun e s' => ∃ pb σb Hb sb, Inv (X.blk s3 H3 scope ce fp) pb σb Hb sb ∧ L2.CX X.prog X.w X.stack Hb sb E e s'
  have hP : Passes (L2.CX X.prog X.w) (BkR X s3 H3 scope ce fp xe) E := fun pb σb Hb sb e s' Ib c => ⟨pb, σb, Hb, sb, inv_xe (X := BkR X s3 H3 scope ce fp xe) (fun _ _ => False) Ib, c⟩
  have pgx := pg xe
  have ptx := pt xe
  have pex := pe xe hP
  -- back in the def's context
  have back : ∀ {pb σb Hb sb}, Inv (X.blk s3 H3 scope ce fp) pb σb Hb sb → Inv X pins σ Hb sb ∧ ∃ m, sb.heap.Ns ce.locals m ∧ FpOk X pins Hb ce.locals := fun {pb σb Hb sb} Ib => by
    have I7 : Inv X pins σ Hb sb := I3.call' (ch := fp) Ib.os Ib.base Ib.hok Ib.bare fun b hb => ⟨(f3 b hb).1.2.2.2.1, (f3 b hb).1.2.1, (f3 b hb).1.2.2.2.2.1, (f3 b hb).1.2.2.2.2.2⟩
    have nC : Hb s3.heap.objs.size = none := by
      have z : Hb ce.locals = none := Ib.free
      rw [cL] at z
      exact z
    obtain ⟨m, hn, _⟩ := Ib.loc
    have hn : sb.heap.Ns ce.locals m := hn
    rw [cL] at hn ⊢
    exact ⟨I7, m, hn, I3.fpOk (Nat.le_refl _) nC⟩
  have stat : ∀ {σ' : L2.St} {H' : Hp} {s' : Shared}, Inv (BkR X s3 H3 scope ce fp xe) [] σ' H' s' → (∀ b ∈ fp, H' b = none) → ∀ b ∈ fp, FpOk (BkR X s3 H3 scope ce fp xe) [] H' b := fun {σ' H' s'} I' hn b hb =>
    ⟨hn b hb, (I'.ok.exf b hb).1, I'.ok.exfs b hb, .inl hb, fun x c e => (I'.ok.exf b hb).2 x c e, fun p hp => absurd (show p ∈ ([] : List (Addr × Obj)) ++ [] from hp) (by simp)⟩
  -- what the block raised
  have out : ∀ e s', xe e s' → notedBy (model X.prog X.w) X.A ce (fun e s' => R (.ref D) ce (.error e) s') e s' := fun e s' ⟨pb, σb, Hb, sb, Ib, c⟩ => by
    obtain ⟨I7, m, hn, fC⟩ := back Ib
    obtain ⟨o, es, ep, ho, hd, hk, hm⟩ := id hn
    refine wpAny_mono (block_out hstk hfrm htk I7 fC ho ⟨es, ep, hd⟩ c cF) (fun _ t ht => ?_) fun _ _ z => z
    exact hEr D ce e t ⟨m, ⟨o, es, ep, ht.1, hd, hk, hm⟩, ht.2⟩
  have loop : codeAny (model X.prog X.w) X.A (.compLoop (.ListComp elt [⟨tg, iter, ifs, 0⟩] scope pos) 0 (.ref it) (.ref D) ce) (R (.ref D) ce) s4 := by
    refine compLoop_any (fun n s' => ∃ i H', Inv (BkR X s3 H3 scope ce fp xe) [] (wipe σ (own.map (·.2))) H' s' ∧ tn i s'.heap ∧ (∀ b ∈ fp, H' b = none) ∧ W i n H') ?_ m0 ⟨0, H3, inv_xe (X := X.blk s3 H3 scope ce fp) xe I4, st4, nfp, w0⟩
    rintro n s5 ⟨i, H5, I5, st5, n5, w5⟩
    rcases turn i n H5 w5 with ⟨stop, qq⟩ | ⟨go, Nx, hNx, step⟩
    · have td := T.done (BkR X s3 H3 scope ce fp xe) rfl rfl rfl hc i [] s5 _ H5 (fun _ _ => False) I5 (stat I5 n5) st5 stop
      refine thnF td fun r s6 ⟨hr, I6⟩ => ?_
      subst hr
      obtain ⟨I7, m, hn, fC⟩ := back (inv_xe (X := BkR X s3 H3 scope ce fp xe) (fun _ _ => False) I6)
      exact hOk D ce s6 m H5 I7 qq hn fC
    · have ti := T.item (BkR X s3 H3 scope ce fp xe) rfl rfl rfl hc i [] s5 _ H5 (fun _ _ => False) I5 (stat I5 n5) st5 go
      refine thnF ti fun r s6 ⟨u, hr, h6⟩ => ?_
      subst hr
      refine thnF h6 fun _ s7 ⟨x, H7, I7, r7, y7, st7, n7⟩ => ?_
      have I7' := I7.pinned (stat I7 n7) (T.obj _ _ st7)
      refine wpAny_mono (pgx.run _ s7 _ H7 x u _ I7' r7 (step x H7 y7)) (fun _ s8 ⟨σ8, H8, I8, hw8, q8⟩ => ?_) out
      refine wpAny_mono (ptx.run _ s8 σ8 H8 _ I8 q8) (fun b s9 ⟨H9, I9, q9⟩ => ?_) out
      have fin : ∀ {s' : Shared} {H' : Hp}, Inv (BkR X s3 H3 scope ce fp xe) ([] ++ pinsAt fp s7.heap) σ8 H' s' → Nx H' → ∃ m, m < n ∧ ∃ i H', Inv (BkR X s3 H3 scope ce fp xe) [] (wipe σ (own.map (·.2))) H' s' ∧ tn i s'.heap ∧ (∀ b ∈ fp, H' b = none) ∧ W i m H' := fun {s' H'} I' nx => by
        obtain ⟨m', hm, w'⟩ := hNx H' nx
        have pin' : ∀ b ∈ fp, ∀ o, s7.heap.get? b = some o → s'.heap.get? b = some o ∧ H' b = none := fun b hb o e =>
          let z := I'.pin (b, o) (List.mem_append_right _ (List.mem_append_right _ (mem_pinsAt hb e)))
          ⟨z.1, z.2.1⟩
        have hl : (wipe σ (own.map (·.2))).length = σ8.length := by rw [← hw8, wipe_length]
        refine ⟨m', hm, i + 1, H', (I'.unpinned (pins := [])).weak hl (fun j v e => ?_), T.keep _ _ _ st7 fun b hb o e => (pin' b hb o e).1, fun b hb => ?_, w'⟩
        · rw [← hw8] at e
          exact (wipe_some e).1
        · obtain ⟨o, e, _⟩ := T.obj _ _ st7 b hb
          exact (pin' b hb o e).2
      cases b with
      | false =>
        simp only [Bool.false_eq_true, if_false] at q9 ⊢
        exact fin I9 q9
      | true =>
        simp only [if_true] at q9 ⊢
        refine wpAny_mono (pex.run _ s9 σ8 H9 _ I9 q9) (fun z s10 ⟨yv, H10, I10, r10, acc, hD10, hz10, nx⟩ => ?_) out
        exact app_ok (X := BkR X s3 H3 scope ce fp xe) I10 hD10 hz10 r10 fun s11 I11 => fin I11 nx
  exact codeAny_compStart_list loop (T.self X.A 0 _ _ _ st4 loop)
variable {elt tg iter : Expr} {ifs : List Expr} {scope : Scope} {own : List (Str × Nat)} {wi : TI} {g : TG} {tt : TT} {te : TE} {E : XK}
/-- as a value -/
theorem pe_lcR {pos : Pos} (hstk : X.stack = X.env :: X.outer) (hfrm : X.env.frame = some X.env.locals) (htk : Takes X (fun c d _ G => E c d G)) (hnf : ∀ y ∈ scope.names, y.2 ≠ .free)
    (hc : X.calm = true) (hN : X.N.Nodup) (hi : PI X tg iter wi) (ok : BlkOk X.N X.env.scope scope own)
    (hg : ∀ (s : Shared) (H : Hp) (C : Addr) (cl : List (Str × Addr)) (fp : List Addr) (xe : Value → Shared → Prop), PG (BkR X s H scope (compEnvC scope cl C X.env) fp xe) tg g)
    (ht : ∀ (s : Shared) (H : Hp) (C : Addr) (cl : List (Str × Addr)) (fp : List Addr) (xe : Value → Shared → Prop), PTs (BkR X s H scope (compEnvC scope cl C X.env) fp xe) ifs tt)
    (he : ∀ (s : Shared) (H : Hp) (C : Addr) (cl : List (Str × Addr)) (fp : List Addr) (xe : Value → Shared → Prop), Passes (L2.CX X.prog X.w) (BkR X s H scope (compEnvC scope cl C X.env) fp xe) E → PE (BkR X s H scope (compEnvC scope cl C X.env) fp xe) elt te)
    (hs : ∀ x, foldedSetIterable iter X.env x = pure x := by intro _; rfl) :
    PE X (.ListComp elt [⟨tg, iter, ifs, 0⟩] scope pos) (tLc wi g tt te (own.map (·.2))) := by
  refine ⟨fun pins s σ H Q I h => ?_⟩
  rw [eval_ListComp]
  refine wpAny_comprehension rfl hs hnf ok.kind (fun y hy e => by rw [ok.uniq y hy, e])
    (lc_coreR (pos := pos) (R := fun acc ce r s' => ∃ m, s'.heap.Ns ce.locals m ∧ ∀ h', Heap.SameBut ce.locals s'.heap h' →
      match r with | .ok _ => EP X pins σ Q acc { s' with heap := h' } | .error x => wpAny (model X.prog X.w) X.A (passOn "comprehension.variables-let-go" x ce : Sem Value) (EP X pins σ Q) X.xe { s' with heap := h' })
      hstk hfrm htk hnf hc hN I hi ok hg ht he h (fun D ce s' m H' I' q hn f => ⟨m, hn, fun h'' sb => ?_⟩) fun D ce x s' ⟨m, hn, z⟩ => ⟨m, hn, fun h'' sb => thnF2 (z h'' sb)⟩)
  obtain ⟨f0, f1, f2, f3, f4, f5⟩ := f
  exact ⟨.ref D, H', I'.turned (t' := s'.toks) (fun b o hb e => (sb.2 b hb).trans e) f0 f1 f3 f4 f5, rfl, q⟩
/-- name = [..] on one line, the name a local -/
theorem ps_setLcR {i : Nat} {y : Str} {py : Pos} {pos spos : Pos} (hstk : X.stack = X.env :: X.outer) (hfrm : X.env.frame = some X.env.locals) (htk : Takes X (fun c d _ G => E c d G)) (hnf : ∀ y ∈ scope.names, y.2 ≠ .free)
    (hc : X.calm = true) (hN : X.N.Nodup) (hy : X.N[i]? = some y) (hyl : X.env.scope.names.lookup y = some .local)
    (hsw : swapsWith (.ListComp elt [⟨tg, iter, ifs, 0⟩] scope pos) (some (.Name y py)) spos.line X.env = pure true) (hi : PI X tg iter wi) (ok : BlkOk X.N X.env.scope scope own)
    (hg : ∀ (s : Shared) (H : Hp) (C : Addr) (cl : List (Str × Addr)) (fp : List Addr) (xe : Value → Shared → Prop), PG (BkR X s H scope (compEnvC scope cl C X.env) fp xe) tg g)
    (ht : ∀ (s : Shared) (H : Hp) (C : Addr) (cl : List (Str × Addr)) (fp : List Addr) (xe : Value → Shared → Prop), PTs (BkR X s H scope (compEnvC scope cl C X.env) fp xe) ifs tt)
    (he : ∀ (s : Shared) (H : Hp) (C : Addr) (cl : List (Str × Addr)) (fp : List Addr) (xe : Value → Shared → Prop), Passes (L2.CX X.prog X.w) (BkR X s H scope (compEnvC scope cl C X.env) fp xe) E → PE (BkR X s H scope (compEnvC scope cl C X.env) fp xe) elt te)
    (hs : ∀ x, foldedSetIterable iter X.env x = pure x := by intro _; rfl) :
    PS X (.Assign [.Name y py] (.ListComp elt [⟨tg, iter, ifs, 0⟩] scope pos) spos) (tAsg (tLc wi g tt te (own.map (·.2))) (gName i)) := by
  refine ⟨fun pins s σ H D I h => ?_⟩
  rw [exec_Assign_Name_used _ _ _ _ hsw]
  refine wpAny_bind (wpAny_standAt (wpAny_bind ?_))
  show wpAny _ X.A (do let _ ← comprehension (.ListComp elt [⟨tg, iter, ifs, 0⟩] scope pos) scope X.env (firstIterPos [⟨tg, iter, ifs, 0⟩] pos) (newList []) false (eval iter X.env) (some (assign (.Name y py) X.env))) _ _ s
  have h : tLc wi g tt te (own.map (·.2)) σ H (fun x H1 => gName i x σ H1 D.nx) := h
  refine wpAny_bind (thn (Q := fun _ s' => SP X pins D .next s') (wpAny_comprehension_use rfl hs hnf ok.kind (fun y hy e => by rw [ok.uniq y hy, e])
    (lc_coreR (pos := pos) (R := fun acc ce r s' => match r with
        | .ok _ => wpAny (model X.prog X.w) X.A (assign (.Name y py) X.env acc) (fun _ s'' => ∃ m, s''.heap.Ns ce.locals m ∧ ∀ h', Heap.SameBut ce.locals s''.heap h' → SP X pins D .next { s'' with heap := h' }) X.xe s'
        | .error x => ∃ m, s'.heap.Ns ce.locals m ∧ ∀ h', Heap.SameBut ce.locals s'.heap h' → wpAny (model X.prog X.w) X.A (passOn "comprehension.variables-let-go" x ce : Sem Value) (fun _ s' => SP X pins D .next s') X.xe { s' with heap := h' })
      hstk hfrm htk hnf hc hN I hi ok hg ht he h (fun L ce s' m H' I' q hn f => ?_) fun D ce x s' ⟨m, hn, z⟩ => ⟨m, hn, fun h'' sb => thnF2 (z h'' sb)⟩)) fun _ s' hq => wpAny_pure (wpAny_pure hq))
  show wpAny _ _ (assign (.Name y py) X.env (.ref L)) _ _ _
  refine wpAny_assign_Name (store_ok2 (v := V.ref L) I' hN hy (.inl hyl) rfl (fun s2 I2 ⟨a, sb, ha⟩ => ?_) (.inr hyl))
  obtain ⟨f0, f1, f2, f3, f4, f5⟩ := f
  have haC : ce.locals ≠ a := by
    rcases ha with z | z
    · rw [z]; exact f1
    · exact fun e => f4 y a z e.symm
  refine ⟨m, hn.sameBut sb haC, fun h3 sb3 => ?_⟩
  exact ⟨_, H', I2.turned (t' := s2.toks) (fun b o hb e => (sb3.2 b hb).trans e) f0 f1 f3 f4 f5, q⟩
end
end AT

set_option maxHeartbeats 4000000
/-! defs of the form def f( *v ): their promise and their calls -/
namespace AT
open PySem PySem.Spec PyProof.Rows L2
def OkS (P : Program) (w : World) (K : PySem.W.Frag) (mg : Str → Option Value) (base : Heap) (k : Nat) (f : Addr) (sp : Sp) : Prop := FnR P w K mg base (L2.CX P w) k f sp ∧ PySem.W.keepIn K (.ref f) = true
/-- told by the tuple of what is passed -/
def spAll (sp : V → Hp → VK → XK → Prop) : Sp := fun vs H Q E => vs.length ≤ sizeLine ∧ ∀ p, H p = none → sp (V.ref p) (upd H p (.tup vs)) Q E
def spOf (sp : V → Hp → VK → XK → Prop) : Sp := fun vs H Q E => ∃ v, vs = [v] ∧ sp v H Q E
theorem mk_okS {P : Program} {w : World} {K : PySem.W.Frag} {mg : Str → Option Value} {base : Heap} {x qual pv : Str} {st : Stmt} {kws : List (Str × V)} {f : Addr} {N : List Str} {k : Nat} {sp : V → Hp → VK → XK → Prop}
    (F : ∃ fd, FunD K x qual (defArgs st) (defBody st) (defScope st) [] kws f fd) (S : FnScope N [pv] (defScope st))
    (hb : ∀ (kV doc pm : Value) (an : Option Addr) (cdv ct : Value) (rest : List Value), bindArgs (PySem.W.fnOf x qual (defArgs st) (defBody st) (defScope st) .none kV doc pm an cdv ct) ⟨rest, []⟩ = (newTuple rest >>= fun t => pure [(pv, t)]))
    (body : ∀ (cdv : Value) (A : Around) (outer : List Env) (s : Shared) (H : Hp) (vs : List V) (Q : VK) (E : XK), Room k (A.deeper (envOfC qual (defScope st) s.heap.objs.size f cdv)) → spOf sp vs H Q E →
      ∃ t, PSs (cxOf (L2.CX P w) P w K mg base N qual (defScope st) f cdv A outer s H E) (defBody st) t ∧ t { nx := fun _ H' => Q .non H', rt := Q } (start N vs) H) : OkS P w K mg base (k + 1) f (spAll sp) := by
  obtain ⟨fd, F⟩ := F
  obtain ⟨oc, od, dV, kV, doc, pm, an, cdv, ct, osl, rfl, lk, hcd, hD, hK⟩ := F.ex
  rcases hD with ⟨_, rfl⟩ | ⟨e, _⟩
  · refine ⟨(StX.fn_star (ps := []) (sp := spOf sp) lk hcd S StX.cxUp (fun us rest hl => ?_) fun A outer s H vs Q E hr hsp => body cdv A outer s H vs Q E hr hsp).imp fun vs H Q E h => ?_, F.kp⟩
    · obtain rfl := List.length_eq_zero_iff.mp hl
      exact hb kV doc pm an cdv ct rest
    · exact ⟨[], vs, rfl, rfl, h.1, fun p hp => ⟨_, rfl, h.2 p hp⟩⟩
  · exact absurd rfl e
section
variable {X : Cx} {k : Nat} {f : Addr} {sp : Sp} {E : XK} {x : Str} {p pos : Pos} {e : Expr} {es : List Expr} {t : TA}
def tCallR (sp : Sp) (E : XK) (t : TA) : TE := fun σ H Q => t σ H fun vs H1 => sp vs H1 Q E
def tCallRS (sp : Sp) (E : L2.St → XK) (t : TA) : TE := fun σ H Q => t σ H fun vs H1 => sp vs H1 Q (E σ)
theorem ok_callR (F : OkS X.prog X.w X.K X.mg X.base k f sp) (hr : Room k X.A) (hg : Gl X x) (hm : X.mg x = some (.ref f)) (hx : Passes (L2.CX X.prog X.w) X E) (ha : PA X (e :: es) t)
    (hdb : (x == ("__debug__" : Str)) = false := by decide) (hst : starEach (e :: es) X.env = (false, eval e X.env) :: starEach es X.env := by rfl) (hns : (backTo pos (starEach es X.env)).any (·.1) = false := by rfl) :
    PE X (.Call (.Name x p) (e :: es) [] pos) (tCallR sp E t) := by
  obtain ⟨F1, kp⟩ := F
  refine ⟨fun pins s σ H Q I h => ?_⟩
  refine wpAny_Call_Name_kw (ld_glob I hg hm ?_ hdb)
  refine PySem.W.callWith_K (h₀ := X.base) I.ok.mod.kin kp (thn (ha.run pos pins s σ H _ I h) fun us s1 ⟨vs, H1, I1, r, q⟩ => ⟨I1.kIn, ?_⟩) hst hns
  refine wpAny_call (codeAny_mono (run_fnR F1 hr hx I1 r q) fun r s' hq => ?_)
  cases r with
  | error e => exact hq
  | ok fl => cases fl <;> exact hq
theorem ok_callR0 (F : OkS X.prog X.w X.K X.mg X.base k f sp) (hr : Room k X.A) (hg : Gl X x) (hm : X.mg x = some (.ref f)) (hx : Passes (L2.CX X.prog X.w) X E)
    (hdb : (x == ("__debug__" : Str)) = false := by decide) : PE X (.Call (.Name x p) [] [] pos) (tCallR sp E tNil) := by
  obtain ⟨F1, kp⟩ := F
  refine ⟨fun pins s σ H Q I h => ?_⟩
  refine wpAny_Call_Name_kw (ld_glob I hg hm ?_ hdb)
  refine PySem.W.callWith_K0 I.kIn kp ?_
  refine wpAny_call (codeAny_mono (run_fnR (us := []) F1 hr hx I .nil h) fun r s' hq => ?_)
  cases r with
  | error e => exact hq
  | ok fl => cases fl <;> exact hq
theorem run_fnRS {W : WX} {pins : List (Addr × Obj)} {σ : L2.St} {H : Hp} {s : Shared} {Q : VK} {us : List Value} {vs : List V} (F : FnR X.prog X.w X.K X.mg X.base (L2.CX X.prog X.w) k f sp) (hr : Room k X.A) (tk : Takes X W) (I : Inv X pins σ H s) (r : Vals vs us) (h : sp vs H Q (fun cls d H => W cls d σ H)) :
    codeAny (model X.prog X.w) X.A (.call (.ref f) ⟨us, []⟩) (fun r s' => match r with | .ok (.ret v) => EP X pins σ Q v s' | .ok _ => False | .error e => X.xe e s') s := by
  refine codeAny_mono (F X.A X.stack s H us vs Q _ hr I.env0 r h) fun r s' hq => ?_
  cases r with
  | error e => exact passAt tk σ pins H s e s' I hq
  | ok fl =>
    cases fl with
    | ret u => exact I.after hq
    | next => exact False.elim hq
    | brk => exact False.elim hq
    | cont => exact False.elim hq
/-- in a try's body -/
theorem ok_callRS {W : WX} (F : OkS X.prog X.w X.K X.mg X.base k f sp) (hr : Room k X.A) (hg : Gl X x) (hm : X.mg x = some (.ref f)) (tk : Takes X W) (ha : PA X (e :: es) t)
    (hdb : (x == ("__debug__" : Str)) = false := by decide) (hst : starEach (e :: es) X.env = (false, eval e X.env) :: starEach es X.env := by rfl) (hns : (backTo pos (starEach es X.env)).any (·.1) = false := by rfl) :
    PE X (.Call (.Name x p) (e :: es) [] pos) (tCallRS sp (fun σ cls d H => W cls d σ H) t) := by
  obtain ⟨F1, kp⟩ := F
  refine ⟨fun pins s σ H Q I h => ?_⟩
  refine wpAny_Call_Name_kw (ld_glob I hg hm ?_ hdb)
  refine PySem.W.callWith_K (h₀ := X.base) I.ok.mod.kin kp (thn (ha.run pos pins s σ H _ I h) fun us s1 ⟨vs, H1, I1, r, q⟩ => ⟨I1.kIn, ?_⟩) hst hns
  refine wpAny_call (codeAny_mono (run_fnRS F1 hr tk I1 r q) fun r s' hq => ?_)
  cases r with
  | error e => exact hq
  | ok fl => cases fl <;> exact hq
theorem ok_callRS0 {W : WX} (F : OkS X.prog X.w X.K X.mg X.base k f sp) (hr : Room k X.A) (hg : Gl X x) (hm : X.mg x = some (.ref f)) (tk : Takes X W)
    (hdb : (x == ("__debug__" : Str)) = false := by decide) : PE X (.Call (.Name x p) [] [] pos) (tCallRS sp (fun σ cls d H => W cls d σ H) tNil) := by
  obtain ⟨F1, kp⟩ := F
  refine ⟨fun pins s σ H Q I h => ?_⟩
  refine wpAny_Call_Name_kw (ld_glob I hg hm ?_ hdb)
  refine PySem.W.callWith_K0 I.kIn kp ?_
  refine wpAny_call (codeAny_mono (run_fnRS (us := []) F1 hr tk I .nil h) fun r s' hq => ?_)
  cases r with
  | error e => exact hq
  | ok fl => cases fl <;> exact hq
end
end AT

set_option maxHeartbeats 4000000
/-! the head's run, its looks in parts (each part one check of its own: less memory) -/
namespace AT
open PySem PySem.W PySem.Calls PySem.Spec PyProof.Rows L2
/-! what is looked at: the objects that the module's names reach, found with a mask of what was seen -/
def bitHas (m a : Nat) : Bool := match Nat.land (Nat.shiftRight m a) 1 with
  | 0 => false
  | _ + 1 => true
def takeR : List Addr → Nat → List Addr → (Nat → List Addr → List Addr) → List Addr
  | [], m, acc, k => k m acc
  | a :: r, m, acc, k => match bitHas m a with
    | true => takeR r m acc k
    | false => HandSHeadRun.frNat (Nat.lor m (Nat.shiftLeft 1 a)) fun m' => takeR r m' (a :: acc) k
def takeF (g : Addr → Option Obj) : List Addr → Nat → List Addr → (Nat → List Addr → List Addr) → List Addr
  | [], m, acc, k => k m acc
  | a :: r, m, acc, k => match g a with
    | some o => takeR (He.refsD o) m acc fun m' acc' => takeF g r m' acc' k
    | none => takeF g r m acc k
def bfsB (g : Addr → Option Obj) : Nat → Nat → List Addr → List Addr
  | 0, _, front => front
  | n + 1, m, front => front ++ takeF g front m [] fun m' new => bfsB g n m' new
def asB (g : Addr → Option Obj) (n : Nat) : List Addr := bfsB g n (Nat.lor (Nat.shiftLeft 1 mainGlobals) (Nat.shiftLeft 1 cStatics)) [mainGlobals, cStatics]
def obsBG (n : Nat) (fn : List FD) (ex : Ex) (g : Addr → Option Obj) : AlA := obsA fn ex (He.frG g (sysModules :: asB g n))
def hookB (n : Nat) (fn : List FD) (ex : Ex) : PySem.W.Hook where
  α := AlA
  obs := fun s => obsBG n fn ex s.heap.get?
  val := fun _ => valA fn
  says := fun _ h => ∃ K : PySem.W.Frag, K.In h ∧ SaysA fn ex K
  of := fun _ _ e => ⟨_, He.frG_in, e⟩
  keeps := fun _ _ _ ⟨K, hK, c⟩ k => ⟨K, PySem.W.Frag.In.keeps hK k, c⟩
theorem obsBG_eq {n : Nat} {fn : List FD} {ex : Ex} {g : Addr → Option Obj} {s : Shared} (h : ∀ a, g a = s.heap.get? a) : obsBG n fn ex g = (hookB n fn ex).obs s := by
  have q : g = s.heap.get? := funext h
  subst q
  rfl
noncomputable abbrev KofT (n : Nat) (s : PySem.W.SharedT) : PySem.W.Frag := He.frG (HandSHeadRun.getT s) (sysModules :: asB (HandSHeadRun.getT s) n)
/-- the run of the top -/
noncomputable abbrev runE (r : PySem.W.OpenRow) (M : Nat) (w : World) (os : OsState) : Option PySem.W.SharedT := HandSHeadRun.endF (HandSHeadRun.stepQ (HandSHeadRun.denQ HandSHeadRun.tabQ) r.prog w) M r.prog w os
theorem all_chunks {α : Type} {p : α → Bool} {c : Nat} : ∀ {m : Nat} {l : List α}, l.length ≤ m * c → (∀ k, k < m → ((l.drop (k * c)).take c).all p = true) → l.all p = true
  | 0, l, hl, _ => by
    have : l = [] := List.length_eq_zero_iff.mp (by omega)
    rw [this]
    rfl
  | m + 1, l, hl, h => by
    have h0 := h 0 (by omega)
    rw [Nat.zero_mul, List.drop_zero] at h0
    have ih := all_chunks (p := p) (c := c) (m := m) (l := l.drop c) (by rw [List.length_drop, Nat.succ_mul] at *; omega) fun k hk => by
      have z := h (k + 1) (by omega)
      rw [Nat.succ_mul, Nat.add_comm, ← List.drop_drop] at z
      exact z
    rw [← List.take_append_drop c l, List.all_append, h0, ih]
    rfl
theorem map_chunks {α β : Type} {f g : α → β} {c : Nat} : ∀ {m : Nat} {l : List α}, l.length ≤ m * c → (∀ k, k < m → ((l.drop (k * c)).take c).map f = ((l.drop (k * c)).take c).map g) → l.map f = l.map g
  | 0, l, hl, _ => by
    have : l = [] := List.length_eq_zero_iff.mp (by omega)
    rw [this]
    rfl
  | m + 1, l, hl, h => by
    have h0 := h 0 (by omega)
    rw [Nat.zero_mul, List.drop_zero] at h0
    have ih := map_chunks (f := f) (g := g) (c := c) (m := m) (l := l.drop c) (by rw [List.length_drop, Nat.succ_mul] at *; omega) fun k hk => by
      have z := h (k + 1) (by omega)
      rw [Nat.succ_mul, Nat.add_comm, ← List.drop_drop] at z
      exact z
    rw [← List.take_append_drop c l, List.map_append, List.map_append, h0, ih]
theorem run_parts {r : PySem.W.OpenRow} {q : Program} {n M m c m' c' : Nat} {fn : List FD} {ex : Ex} {loose : List PySem.Str} {w : World}
    (h1 : ∀ os, (runE r M w os).map (fun s => HandSHeadRun.looksF r.prog (boot_heap w.params) s.abs) = some true)
    (h2 : ∀ os, (runE r M w os).map (fun s => HandSHeadRun.seenQ q loose (importedModules r.prog.main.body) (fun s => xlAt q [] s && recOk r.toRowW.records s) s.abs) = some (openGood q loose))
    (h3 : ∀ k, k < m → ∀ os, (runE r M w os).map (fun s => ((ex.drop (k * c)).take c).all (fun e => e (KofT n s))) = some true)
    (h4 : ∀ k, k < m' → ∀ os, (runE r M w os).map (fun s => (((fn.drop (k * c')).take c').all (fun d => d.ok (KofT n s)), ((fn.drop (k * c')).take c').map fun d => fobs (KofT n s) (d.loc (KofT n s)))) = some (true, ((fn.drop (k * c')).take c').map FD.val))
    (le : ex.length ≤ m * c) (lf : fn.length ≤ m' * c') : HandSHeadRun.RunEq r q (hookB n fn ex) (fun s => obsBG n fn ex (HandSHeadRun.getT s)) M loose w := by
  intro os
  have a1 := h1 os
  have a2 := h2 os
  have a3 := fun k hk => h3 k hk os
  have a4 := fun k hk => h4 k hk os
  show (runE r M w os).map _ = _
  cases e : runE r M w os with
  | none => rw [e] at a1; cases a1
  | some s =>
    rw [e] at a1 a2
    simp only [e] at a3 a4
    simp only [Option.map_some, Option.some.injEq] at a1 a2 a3 a4 ⊢
    have b1 : ex.all (fun e => e (KofT n s)) = true := all_chunks le a3
    have b2 : fn.all (fun d => d.ok (KofT n s)) = true := all_chunks lf fun k hk => (Prod.mk.inj (a4 k hk)).1
    have b3 : (fn.map fun d => fobs (KofT n s) (d.loc (KofT n s))) = fn.map FD.val := map_chunks lf fun k hk => (Prod.mk.inj (a4 k hk)).2
    refine Prod.ext a1 (Prod.ext a2 ?_)
    show (ex.all (fun e => e (KofT n s)) && fn.all (fun d => d.ok (KofT n s)), fn.map fun d => fobs (KofT n s) (d.loc (KofT n s))) = (true, fn.map FD.val)
    rw [b1, b2, b3]
    rfl
end AT

set_option maxHeartbeats 4000000
namespace AT
open PySem PySem.Spec PyProof.Rows L2
open AutoSeq1 (wpAny_loadPart')
/-! ### enumerate of a tuple -/
abbrev tupIt (t : Addr) : Obj := { cls := .type "tuple_iterator", data := .fields #[.ref t, .int 0 0] }
abbrev enumOf (it : Addr) : Obj := { cls := .type "enumerate", data := .fields #[.none, .bool false, .ref it, rawInt 0, .none, .none] }
theorem new_enum (t : Addr) (its : Array Value) (n : Nat) (dd : Option Addr) (sl : Array (Option Value)) :
    Meets (Builtin.«enumerate.__new__» ⟨[.type "enumerate", .ref t], []⟩) (fun _ R s => s.heap.get? t = some ⟨.type "tuple", dd, .seq its n, sl⟩ ∧ R (.ok (.ret (.ref (s.heap.push (tupIt t)).objs.size))) { s with heap := (s.heap.push (tupIt t)).push (enumOf s.heap.objs.size) }) :=
  .of_wp fun prog w A R s h => by
    obtain ⟨g0, g1, g2, g3, g4⟩ := s
    obtain ⟨ht, h⟩ := h
    have sube := sub_enumerate
    have tt : Heap.IsTuple (Shared.heap ⟨g0, g1, g2, g3, g4⟩) t its := ⟨_, ht, rfl, n, rfl⟩
    wp_walk using wpAny_loadPart' ht
    refine wpAny_stack_any fun st => wpAny_pure ?_
    split
    · rename_i c _ _ _ _ _
      cases (c == Value.type "enumerate")
      all_goals
        wp_walk using wpAny_loadPart' ht, wpAny_pyIter_tuple tt
        exact ⟨_, rfl, h⟩
    · wp_walk using wpAny_loadPart' ht, wpAny_pyIter_tuple tt
      exact ⟨_, rfl, h⟩
section
variable {prog : Program} {w : World} {A : Around} {E : Value → Shared → Prop} {s : Shared}
theorem call_enum {t : Addr} {its : Array Value} {Q : Value → Shared → Prop} (ht : s.heap.IsTuple t its)
    (go : ∀ h', IsEnum h' (s.heap.objs.size + 1) s.heap.objs.size 0 .none → h'.IsTupleIter s.heap.objs.size t 0 → (∀ b o, s.heap.get? b = some o → h'.get? b = some o) → Q (.ref (s.heap.objs.size + 1)) { s with heap := h' }) :
    wpAny (model prog w) A (call (.type "enumerate") [.ref t]) Q E s := by
  obtain ⟨⟨c, dd, dt, sl⟩, e1, e2, n, e3⟩ := ht
  replace e2 : c = .type "tuple" := e2
  replace e3 : dt = .seq its n := e3
  subst e2 e3
  refine callType_new F.called_enumerate (by decide) (F.typeCall_enumerate_1 _) (F.newCall_enumerate_1 _) (fun obj => F.args_object_init_2 obj _) F.entry_enumerate_new (new_enum t its n dd sl) ⟨e1, ?_⟩
  have sz : (s.heap.push (tupIt t)).objs.size = s.heap.objs.size + 1 := Heap.size_push ..
  show _ ∧ _
  rw [sz]
  have en : IsEnum ((s.heap.push (tupIt t)).push (enumOf s.heap.objs.size)) (s.heap.objs.size + 1) s.heap.objs.size 0 .none := by
    have z := Heap.get?_push_size (s.heap.push (tupIt t)) (o := enumOf s.heap.objs.size) rfl
    rw [sz] at z
    exact z
  exact ⟨⟨_, en, rfl⟩, go _ en ⟨_, Heap.get?_push_of_some _ (Heap.get?_push_size _ rfl), rfl, rfl⟩ fun b o z => Heap.get?_push_of_some _ (Heap.get?_push_of_some _ z)⟩
end
/-- the tuple at a, each item in a new pair -/
def IteT (K : PySem.W.Frag) (a : Addr) : It where
  go i H := ∃ (xs : List V) (x : V), SqT K H a xs ∧ xs[i]? = some x
  yld i H v H' := ∃ T x, v = .ref T ∧ H T = none ∧ H' = upd H T (.tup [.int (i : Nat), x]) ∧ ∀ xs, SqT K H a xs → xs[i]? = some x
  stop i H := ∃ xs : List V, SqT K H a xs ∧ xs.length ≤ i
theorem tup_ne {X : Cx} {pins : List (Addr × Obj)} {σ : L2.St} {H : Hp} {s : Shared} {t it : Addr} {i : Nat} {its : Array Value} (h : s.heap.IsTupleIter it t i) (g : s.heap.IsTuple t its) : t ≠ it := by
  rintro rfl
  obtain ⟨o, e, c, _⟩ := h
  obtain ⟨o', e', c', _⟩ := g
  rw [e] at e'
  cases e'
  rw [c] at c'
  exact absurd (Value.type.inj c') (by decide)
theorem turn_enumT {P : Program} {w : World} {K : PySem.W.Frag} {elts : List Expr} {kk : Nat} {tpos : Pos} (a e it : Addr) :
    Turn P w K (.Tuple elts kk tpos) (IteT K a) [e, it] e (fun i h => (∃ old, IsEnum h e it ((i : Nat) : Int) old) ∧ h.IsTupleIter it a i ∧ e ≠ it ∧ e ≠ a) where
  mem := by simp
  obj := fun i h st b hb => by
    obtain ⟨⟨old, he⟩, ⟨o, ho, hc, hd⟩, _⟩ := st
    rcases (show b = e ∨ b = it by simpa using hb) with z | z
    · rw [z]; exact ⟨_, he, fun v q => nomatch q⟩
    · rw [z]; exact ⟨o, ho, fun v q => by rw [hd] at q; cases q⟩
  keep := fun i h h' st k => by
    obtain ⟨⟨old, he⟩, hi, n1, n2⟩ := st
    exact ⟨⟨old, k e (by simp) _ he⟩, hi.at fun o q => k it (by simp) o q, n1, n2⟩
  item := by
    intro X hP hw hK hc i pins s σ H E I hf st hg
    subst hP hw hK
    obtain ⟨⟨old, he⟩, hi, n1, n2⟩ := st
    obtain ⟨xs, x, hq, hx⟩ := hg
    obtain ⟨its, rv, p, hz⟩ := I.tuple hq
    obtain ⟨u, hu, ru⟩ := rv.get hx
    have le : e < s.heap.objs.size := Heap.lt_size he
    have li : it < s.heap.objs.size := by obtain ⟨_, q, _⟩ := hi; exact Heap.lt_size q
    have ne : a ≠ it := tup_ne (X := X) (pins := pins) (σ := σ) (H := H) hi p
    have lt : i < its.toArray.size := by
      rw [List.size_toArray]
      exact (List.getElem?_eq_some_iff.mp hu).1
    refine wpAny_pyNext_enum_itemD (Draws.tuple (A := X.A.in1) (I.ok.hd hc) it a ne its.toArray) he ⟨hi, p⟩ lt n1 (by simp [n1, n2]) fun v h' tk hv out st' hT hsz hk => ?_
    have ev : v = u := by
      have z : its.toArray[i]? = some v := hv
      rw [List.getElem?_toArray, hu] at z
      cases z
      rfl
    subst ev
    refine ⟨_, rfl, wpAny_letOwnedTupleGo_enum (s := { s with heap := h', toks := tk + 1 }) out fun h'' he' sb => ?_⟩
    have hT2 : h''.get? s.heap.objs.size = some { cls := .type "tuple", data := .seq #[.int i tk, v] } := (sb.2 _ (Nat.ne_of_gt le)).trans hT
    have new : ObjOk X.prog X.w (upd H s.heap.objs.size (.tup [.int (i : Nat), x])) h'' s.heap.objs.size (.tup [.int (i : Nat), x]) :=
      ⟨(by show 2 ≤ sizeLine; decide), [.int i tk, v], .cons ⟨_, rfl⟩ (.cons ru .nil), ⟨_, hT2, rfl, _, rfl⟩⟩
    have I1 : Inv X pins σ (upd H s.heap.objs.size (.tup [.int (i : Nat), x])) { s with heap := h'', toks := tk + 1 } :=
      I.turnedNew (ch := [e, it]) (fun b ob hb q => (sb.2 b (fun z => hb (by simp [z]))).trans (hk b ob (fun z => hb (by simp [z])) (fun z => hb (by simp [z])) q)) hf (Nat.le_refl _) new
    refine ⟨.ref s.heap.objs.size, _, I1, rfl, ⟨_, x, rfl, I.hok.fresh (Nat.le_refl _), rfl, fun ys hy => by rw [I.tuple_inj hy hq]; exact hx⟩, ⟨⟨v, ?_⟩, st'.1.at fun o q => (sb.2 it (Ne.symm n1)).trans q, n1, n2⟩, fun b hb => ?_⟩
    · rw [show ((i + 1 : Nat) : Int) = (i : Int) + 1 by omega]
      exact he'
    · have lb : b < s.heap.objs.size := by
        rcases (show b = e ∨ b = it by simpa using hb) with z | z
        · rw [z]; exact le
        · rw [z]; exact li
      rw [upd_ne (Nat.ne_of_lt lb)]
      exact (hf b hb).1
  done := by
    intro X hP hw hK hc i pins s σ H E I hf st hg
    subst hP hw hK
    obtain ⟨⟨old, he⟩, hi, n1, n2⟩ := st
    obtain ⟨xs, hq, hx⟩ := hg
    obtain ⟨its, rv, p, hz⟩ := I.tuple hq
    obtain ⟨f0, f1, f2, f3, f4, f5⟩ := hf it (by simp)
    have out : its.toArray[i]? = none := by
      rw [List.getElem?_toArray]
      exact List.getElem?_eq_none (by rw [← rv.length]; exact hx)
    have ty : s.TypeIs (.ref e) "enumerate" := ⟨_, he, rfl⟩
    unfold pyNext
    refine wpAny_bind (wpAny_attempt (wpAny_callSpecial?_slot (name := Str.ofString "__next__") ty F.slot_enumerate_next (wpAny_call_entry F.slot_enumerate_next ty F.entry_enumerate_next ?_ (F.args_enumerate_next_1 _))))
    show wpAny _ _ (field (.ref e) 2 >>= fun z => _) _ _ _
    refine wpAny_bind (wpAny_field he rfl (x := .ref it) rfl ?_)
    refine wpAny_bind (wpAny_nextOf_tuple_end (I.ok.hd hc) hi p out fun h' x e1 z => ?_)
    obtain ⟨o, e2, e3⟩ := z
    refine wpAny_bind (wpAny_isInstance (T := "StopIteration") (b := true) ⟨o, e2, e3⟩ isSubtype_stop ?_)
    exact wpAny_pure ⟨rfl, I.turned (t' := s.toks) (fun b o hb q => e1 b o hb q) f0 f1 f3 f4 f5⟩
  self := fun A i s Q E st h => let ⟨⟨_, he⟩, _⟩ := st; wpAny_pyIter_enum he h
/-- enumerate(x) of a list or a tuple -/
def EnOf (K : PySem.W.Frag) (H : Hp) (a : Addr) (xs : List V) (J : It) : Prop := (SqL K H a xs ∧ J = Ite K a) ∨ (SqT K H a xs ∧ J = IteT K a)
def iEnumA (K : PySem.W.Frag) (ta : TA) : TI := fun σ H R => ta σ H fun vs H1 => ∃ a xs, vs = [.ref a] ∧ (SqL K H1 a xs ∨ SqT K H1 a xs) ∧ ∀ J, EnOf K H1 a xs J → R J H1
theorem pi_enumA {X : Cx} {x : Expr} {ta : TA} {p pos tpos : Pos} {elts : List Expr} {kk : Nat} (hg : Gl X "enumerate") (hm : X.mg "enumerate" = none) (ha : PA X [x] ta) (hs : starEach [x] X.env = [(false, eval x X.env)] := by rfl) : PI X (.Tuple elts kk tpos) (.Call (.Name "enumerate" p) [x] [] pos) (iEnumA X.K ta) := by
  refine ⟨fun pins s σ H R I h => ?_⟩
  have fok : ∀ {s1 : Shared} {H1 : Hp}, Inv X pins σ H1 s1 → ∀ b ∈ [s1.heap.objs.size + 1, s1.heap.objs.size], FpOk X pins H1 b := fun {s1 H1} I1 b hb => by
    have le : s1.heap.objs.size ≤ b := by
      rcases (show b = s1.heap.objs.size + 1 ∨ b = s1.heap.objs.size by simpa using hb) with z | z
      · rw [z]; exact Nat.le_add_right _ _
      · rw [z]; exact Nat.le_refl _
    exact I1.fpOk le (I1.hok.fresh le)
  refine Call_ (ld_blt I hg hm boot_enumerate (PyProof.Rows.callWith_type1 (thn (ha.run pos pins s σ H _ I h) fun us s1 ⟨vs, H1, I1, r1, q1⟩ => ?_) hs rfl))
  obtain ⟨a, xs, rfl, q1⟩ := q1
  obtain ⟨u, rfl, ru⟩ := r1.one
  cases ru
  obtain ⟨hq | hq, q⟩ := q1
  · have q := q _ (.inl ⟨hq, rfl⟩)
    obtain ⟨its, rv, pl, _⟩ := I1.list hq
    refine call_enumerate_list pl.isList fun h' he hit _ hk => wpAny_pyIter_enum he ?_
    exact ⟨s1.heap.objs.size + 1, [s1.heap.objs.size + 1, s1.heap.objs.size], _, _, H1, rfl, I1.kept (t' := s1.toks) hk, turn_enum a (s1.heap.objs.size + 1) s1.heap.objs.size, ⟨⟨.none, he⟩, hit, Nat.succ_ne_self _⟩, fok I1, q⟩
  · have q := q _ (.inr ⟨hq, rfl⟩)
    obtain ⟨its, rv, pl, _⟩ := I1.tuple hq
    have la : a < s1.heap.objs.size := by obtain ⟨o, e, _⟩ := id pl; exact Heap.lt_size e
    refine call_enum pl fun h' he hit hk => wpAny_pyIter_enum he ?_
    exact ⟨s1.heap.objs.size + 1, [s1.heap.objs.size + 1, s1.heap.objs.size], _, _, H1, rfl, I1.kept (t' := s1.toks) hk, turn_enumT a (s1.heap.objs.size + 1) s1.heap.objs.size, ⟨⟨.none, he⟩, hit, Nat.succ_ne_self _, Nat.ne_of_gt (Nat.lt_succ_of_lt la)⟩, fok I1, q⟩
theorem walk_enumT {K : PySem.W.Frag} {a : Addr} {xs : List V} : Walk (IteT K a) xs.length (fun H => SqT K H a xs) (YPair (fun i => some (.int (i : Nat))) (fun i => xs[i]?)) := by
  refine ⟨fun i H hi h => ⟨xs, xs[i], h, List.getElem?_eq_getElem hi⟩, fun H h => ⟨xs, h, Nat.le_refl _⟩, fun i H x H' hi h y => ?_⟩
  obtain ⟨T, z, e1, e2, e3, e4⟩ := y
  exact ⟨T, .int (i : Nat), z, e1, e2, e3, rfl, e4 xs h⟩
end AT

set_option maxHeartbeats 4000000
namespace AT
open PySem PySem.Spec PyProof.Rows L2
/-! ### lists and tuples alike -/
def rIxQ (K : PySem.W.Frag) : R2 := fun x y H Q => ∃ p xs i v, x = .ref p ∧ y = .int i ∧ (SqL K H p xs ∨ SqT K H p xs) ∧ atI xs i = some v ∧ Q v H
theorem ix_sq {X : Cx} : IxR X (rIxQ X.K) := by
  intro value slice pins s σ H x y v u Q I rx ry h hs
  obtain ⟨p, xs, i, z, e1, e2, hq | hq, he, q⟩ := h
  · exact ix_list value slice pins s σ H x y v u Q I rx ry ⟨p, xs, i, z, e1, e2, hq, he, q⟩ hs
  · exact ix_tup value slice pins s σ H x y v u Q I rx ry ⟨p, xs, i, z, e1, e2, hq, he, q⟩ hs
/-- enumerate(..) of either -/
theorem en_walk {K : PySem.W.Frag} {H : Hp} {a : Addr} {xs : List V} {J : It} (h : EnOf K H a xs J) : ∃ G : Hp → Prop, Walk J xs.length G (YPair (fun i => some (.int (i : Nat))) (fun i => xs[i]?)) ∧ ∀ H', H' a = H a → G H' := by
  rcases h with ⟨h, rfl⟩ | ⟨h, rfl⟩
  · refine ⟨_, walk_enum, fun H' e => ?_⟩
    rcases h with (h | ⟨o, h⟩) | h
    · exact .inl (.inl (e.trans h))
    · exact .inl (.inr ⟨o, e.trans h⟩)
    · exact .inr h
  · refine ⟨_, walk_enumT, fun H' e => ?_⟩
    rcases h with (h | ⟨o, h⟩) | h
    · exact .inl (.inl (e.trans h))
    · exact .inl (.inr ⟨o, e.trans h⟩)
    · exact .inr h
end AT

set_option maxHeartbeats 4000000
namespace AT
open PySem PySem.Spec PyProof.Rows L2
theorem Same.sql {K : PySem.W.Frag} {H H' : Hp} {a : Addr} {xs : List V} (e : Same H H') (h : SqL K H a xs) : SqL K H' a xs := by
  rcases h with (h | ⟨o, h⟩) | h
  · exact .inl (.inl (e _ _ h))
  · exact .inl (.inr ⟨o, e _ _ h⟩)
  · exact .inr h
def SqB (K : PySem.W.Frag) (H : Hp) (a : Addr) (xs : List V) : Bool → Prop
  | true => SqL K H a xs
  | false => SqT K H a xs
def mkS (xs : List V) : Bool → HO
  | true => .lst xs
  | false => .tup xs
theorem SqB.of {K : PySem.W.Frag} {H : Hp} {a : Addr} {xs : List V} {b : Bool} (h : H a = some (mkS xs b)) : SqB K H a xs b := by
  cases b with
  | true => exact SqL.of h
  | false => exact SqT.of h
theorem SqB.or {K : PySem.W.Frag} {H : Hp} {a : Addr} {xs : List V} {b : Bool} (h : SqB K H a xs b) : SqL K H a xs ∨ SqT K H a xs := by
  cases b with
  | true => exact .inl h
  | false => exact .inr h
/-- a slice of a list (a new list) or a tuple (a new tuple, if it is not all of it) -/
def rSlQ (K : PySem.W.Frag) : V → Option Int → Option Int → Hp → VK → Prop := fun x lo hi H Q => ∃ a xs b, x = .ref a ∧ SqB K H a xs b ∧ (b = false → ¬ (HT.sIx xs.length 0 lo = 0 ∧ HT.sIx xs.length xs.length hi = xs.length)) ∧ ∀ p, H p = none → Q (.ref p) (upd H p (mkS (cutV xs lo hi) b))
theorem sl_sq {X : Cx} : SlR X (rSlQ X.K) := by
  intro pins s σ H x v vl vu lo hi sl Q I rx hs pl pu h
  obtain ⟨a, xs, b, e, hq, hw, q⟩ := h
  cases b with
  | true => exact sl_list pins s σ H x v vl vu lo hi sl Q I rx hs pl pu ⟨a, xs, e, hq, q⟩
  | false => exact sl_tup pins s σ H x v vl vu lo hi sl Q I rx hs pl pu ⟨a, xs, e, hq, hw rfl, q⟩
theorem walk_zipT {K : PySem.W.Frag} {a b : Addr} {xs ys : List V} {n : Nat} (hn : n = min xs.length ys.length) : Walk (RZ.ItzT K a b) n (fun H => SqT K H a xs ∧ SqT K H b ys) (YPair (fun i => xs[i]?) (fun i => ys[i]?)) := by
  subst hn
  refine ⟨fun i H hi h => ⟨xs, ys, _, _, h.1, h.2, List.getElem?_eq_getElem (by omega), List.getElem?_eq_getElem (by omega)⟩, fun H h => ⟨xs, ys, h.1, h.2, by omega⟩, fun i H v H' hi h y => ?_⟩
  obtain ⟨T, x, z, e1, e2, e3, e4, e5⟩ := y
  exact ⟨T, x, z, e1, e2, e3, e4 xs h.1, e5 ys h.2⟩
end AT

set_option maxHeartbeats 4000000
namespace AT
open PySem PySem.Spec PyProof.Rows L2
/-! ### isinstance(e, c) where e has fields -/
section
variable {prog : Program} {w : World} {A : Around} {E : Value → Shared → Prop} {t : Shared} {K : PySem.W.Frag} {p D : Addr} {oo od : Obj}
theorem cls_of {R : Option Value → Shared → Prop} (C : ExcC K D) (KI : K.In t.heap) (J : PySem.W.InstAt t.heap p oo D (some od)) (go : R (some (.ref D)) { t with toks := t.toks + 1 }) : wpAny (model prog w) A (getAttr? (.ref p) "__class__") R E t := by
  have fo : PySem.W.findObj K D (some od) "__class__" = some (.bind (.builtin "getset_descriptor.__get__") (.builtin "object.__class__")) := PySem.W.findObj_data (by obtain ⟨cd, z, _⟩ := PySem.W.any_some C.hd; rw [z]; rfl) C.ha C.hn C.ht
  obtain ⟨g0, g1, g2, g3, g4⟩ := t
  have k0 := J.type (M := model prog w)
  have k1 := PySem.W.looks_findIn (M := model prog w) KI C.hg
  have k2 := PySem.W.looks_findIn (M := model prog w) KI C.hk
  have k3 := PySem.W.looks_find (M := model prog w) KI J fo
  have k4 : PySem.W.Looks (model prog w) g0 (isInstance (.ref p) (.type "BaseException")) true := k0.andThen (PySem.W.looks_subIn KI C.hs)
  have z0 : (false && onTheHeap (Value.builtin "BaseException.__getattribute__")) = false := rfl
  have z1 : (Value.builtin "BaseException.__getattribute__" == Value.builtin "object.__getattribute__") = false := by decide +kernel
  have z2 : (onTheHeap (Value.ref D) && Value.builtin "BaseException.__getattribute__" == Value.builtin "object.__getattribute__") = false := by rw [z1]; rfl
  unfold getAttr? getAttrBy? getAttrBy
  refine wpAny_bind (wpAny_mkText (wpAny_bind (wpAny_attempt (wpAny_holding (wpAny_bind (k0.at (wpAny_bind (k1.at ?_))))))))
  show wpAny _ _ (if (onTheHeap (Value.ref D) && Value.builtin "BaseException.__getattribute__" == Value.builtin "object.__getattribute__") = true then _ else _) _ _ ⟨_, _, _, _, _⟩
  rw [z2, if_neg Bool.false_ne_true]
  unfold getAttrByItsOwn hookBefore
  refine wpAny_bind ?_
  rw [if_pos (show onTheHeap (Value.ref D) = true from rfl)]
  refine k2.at (wpAny_bind (wpAny_attempt (wpAny_holding ?_)))
  unfold callGetattribute
  rw [z0, if_neg Bool.false_ne_true]
  unfold boundAndCalled
  rw [PySem.F.excAttr_ValueError.ga.bind (.ref p)]
  refine wpAny_bind (wpAny_pure ?_)
  show wpAny _ _ (call (.builtin "BaseException.__getattribute__") [.ref p, .str "__class__" g3]) _ _ _
  refine wpAny_call (codeAny_call_builtin PySem.F.excAttr_ValueError.ga.plain PySem.F.entry_bexc_ga ?_)
  refine @PySem.W.check_slot (model prog w) _ _ ⟨g0, g1, g2, g3 + 1, g4⟩ "BaseException.__getattribute__" "BaseException" "__getattribute__" (.ref p) [.str "__class__" g3] [] _ (by decide +kernel) (by decide +kernel) k4 (PySem.F.args_bexc_ga (.ref p) (.str "__class__" g3)) ?_
  unfold Builtin.«object.__getattribute__»
  refine wpAny_bind (wpAny_of_eq (a := ((Value.ref p : Value), [Value.str "__class__" g3])) (by first | rfl | (simp only [slotArgs]; rfl)) ?_)
  refine wpAny_bind (wpAny_pure (wpAny_bind (k0.at (wpAny_bind (k3.at ?_)))))
  show wpAny _ _ (holding [Value.builtin "object.__class__"] (call (.builtin "getset_descriptor.__get__") [.builtin "object.__class__", .ref p, .ref D]) >>= fun z => ret z) _ _ _
  refine wpAny_bind (wpAny_holding (wpAny_call (PySem.W.class_get (s := ⟨g0, g1, g2, g3 + 1, g4⟩) (ox := oo) (od := some od) KI J C.hm ?_)))
  refine wpAny_pure ?_
  show wpAny _ _ (handedOut (.ref D)) _ _ ⟨_, _, _, _, _⟩
  rw [PySem.W.handedOut_of (v := .ref D) rfl]
  exact wpAny_pure (wpAny_pure go)
theorem kitx_of (C : ExcC K D) : PySem.W.KitX K (.ref p) (.ref D) (fun h => PySem.W.InstAt h p oo D (some od)) where
  ty := fun _ _ _ J => J.type
  it := fun _ _ KI _ => by
    obtain ⟨cd, z, _⟩ := PySem.W.any_some C.hd
    unfold PySem.W.clsIn at z
    split at z
    · rename_i c1 d1 cd1 sl1 e1
      intro A1 Q1 E1 s1 k q
      unfold isType loadHead
      exact wpAny_bind (wpAny_loadPart (k _ _ (KI _ _ e1)) (wpAny_pure q))
    · cases z
  ne := fun h tp dd its n sl KI e2 => by
    obtain ⟨cd, z, _⟩ := PySem.W.any_some C.hd
    refine Bool.eq_false_iff.mpr fun q => ?_
    have e : D = tp := Value.ref.inj (beq_iff_eq.mp q)
    subst e
    unfold PySem.W.clsIn at z
    split at z
    · rename_i c1 d1 cd1 sl1 e1
      have y := (KI _ _ e1).symm.trans e2
      cases y
    · cases z
  ca := fun KI J k => cls_of C KI J k
end
/-- isinstance(e, c), e the exception that the suite holds, its fields at d -/
def rIsX (K : PySem.W.Frag) (D a d : Addr) : List V → Hp → VK → Prop := fun xs H Q => ∃ (c : V) (cv : Value) (b : Bool) (fs : List (Str × V)), xs = [.ref a, c] ∧ ClsV c cv ∧ PySem.W.kitOne K (.ref D) cv = some b ∧ H d = some (.xd fs) ∧ Q (.bl b) H
theorem call_isX {X : Cx} {a D d : Addr} {oe : Obj} {cls : Value} {dd : Option Addr} {pn : List (Addr × Obj)} (C : ExcC X.K D) (hz : Zc cls dd oe) (hf : ∃ vs, oe.data = .fields vs) : CallR (X.suite a ((a, oe) :: pn)) (.builtin "isinstance") (fun xs H Q => cls = .ref D ∧ ∃ d, dd = some d ∧ rIsX X.K D a d xs H Q) := by
  intro pins s σ H xs us Q I r h
  obtain ⟨rfl, d, rfl, c, cv, b, fs, rfl, hcv, e, hd, q⟩ := h
  obtain ⟨u1, u2, rfl, r1, r2⟩ : ∃ u1 u2, us = [u1, u2] ∧ RelV (.ref a) u1 ∧ RelV c u2 := by
    cases r with
    | cons rx rr =>
      cases rr with
      | cons rt rr =>
        cases rr
        exact ⟨_, _, rfl, rx, rt⟩
  cases r1
  have ec : u2 = cv := by
    cases hcv <;> (cases r2; rfl)
  subst ec
  obtain ⟨ha, _⟩ := I.pin (a, oe) (List.mem_append.mpr (.inl List.mem_cons_self))
  obtain ⟨vs, hv⟩ := hf
  obtain ⟨mA, hns, hr⟩ := (show ObjOk X.prog X.w H s.heap d (.xd fs) from I.hok d _ hd)
  obtain ⟨od, ho, hl⟩ := lookIn_ns hns
  have J : PySem.W.InstAt s.heap a oe D (some od) := ⟨ha, hz.1, by unfold PySem.W.notCls; rw [hv] <;> rfl, by rw [hz.2]; exact ho⟩
  exact PySem.W.kia_one (kitx_of C) I.kIn J e (fun z => nomatch z) fun tk => ⟨.bl b, H, I.kept (t' := tk) fun _ _ z => z, rfl, q⟩
def excsB (x : Str) (K : PySem.W.Frag) : Bool :=
  He.eqO (PySem.W.findIn K (.ref (He.ga K x)) "__getattribute__") (some (some (.builtin "BaseException.__getattribute__"))) && (He.eqO (PySem.W.findIn K (.ref (He.ga K x)) "__getattr__") (some none) && (decide (PySem.W.subIn K (.ref (He.ga K x)) (.type "BaseException") = some true) && (PySem.W.hasDictIn K (He.ga K x) &&
    (He.eqO (PySem.W.findIn K (.ref (He.ga K x)) "__class__") (some (some (.builtin "object.__class__"))) && (He.eqO (PySem.W.specialIn K (.builtin "object.__class__") "__get__") (some (some (.builtin "getset_descriptor.__get__"))) && (decide (PySem.W.takesIn K (.builtin "object.__class__") = some true) && decide (PySem.W.mroIn K (He.ga K x) (.type "object") = some true)))))))
theorem excs_ok {x : Str} {K : PySem.W.Frag} (h : excsB x K = true) : ExcC K (He.ga K x) := by
  unfold excsB at h
  simp only [Bool.and_eq_true] at h
  obtain ⟨h1, h2, h3, h4, h5, h6, h7, h8⟩ := h
  exact ⟨He.eqO_ok h1, He.eqO_ok h2, of_decide_eq_true h3, h4, He.eqO_ok h5, He.eqO_ok h6, of_decide_eq_true h7, of_decide_eq_true h8⟩
end AT

set_option maxHeartbeats 4000000
namespace AT
open PySem PySem.Spec PyProof.Rows L2
/-! ### C(..) in a try's body -/
section
variable {X : Cx} {k : Nat} {f C : Addr} {ps : List Str} {sp : Sp} {x : Str} {p pos : Pos} {e : Expr} {es : List Expr} {t : TA}
theorem make_at {fd : FuncData} {E : XK} {pins : List (Addr × Obj)} {σ : L2.St} {H : Hp} {s : Shared} {Q : VK} {us : List Value} {vs : List V} (M : Mk X.K C f) (F : FnOk X.prog X.w X.K X.mg X.base (L2.CX X.prog X.w) k f fd ps sp) (hr : Room (k + 1) X.A) (hb : Binds X.K fd ps [])
    (hx : PassesAt (L2.CX X.prog X.w) X σ E) (I : Inv X pins σ H s) (r : Vals vs us) (go : ∀ q d, H q = none → H d = none → d ≠ q → sp (.ref q :: vs) (upd (upd H d (.own q)) q (.ins C d [])) (fun v H2 => v = .non ∧ Q (.ref q) H2) E) : wpAny (model X.prog X.w) X.A (call (.ref C) us) (EP X pins σ Q) X.xe s := by
  have g := go (s.heap.objs.size + 1) s.heap.objs.size (I.hok.fresh (Nat.le_succ _)) (I.hok.fresh (Nat.le_refl _)) (Nat.ne_of_lt (Nat.lt_succ_self _))
  have J := Inv.made (C := C) I
  have rr : Vals (V.ref (s.heap.objs.size + 1) :: vs) (Value.ref (s.heap.objs.size + 1) :: us) := .cons rfl r
  have ln : (Value.ref (s.heap.objs.size + 1) :: us).length = ps.length := by
    have z := rr.length
    rw [F.len _ _ _ _ g] at z
    exact z.symm
  have bd := hb _ (Value.ref (s.heap.objs.size + 1) :: us) J.kIn (by simpa using ln)
  rw [List.append_nil] at bd
  refine wpAny_call (make_map (f := f) I.kIn M.makes M.init (beq_iff_eq.mp M.fn) (codeAny_mono (F.run _ X.stack _ _ ⟨Value.ref (s.heap.objs.size + 1) :: us, []⟩ _ _ _ E (hr.make C us []) (J.env0.make C us []) bd rr g) fun res s' hq => ?_))
  cases res with
  | error er => exact hx pins _ _ er s' J hq
  | ok fl =>
    cases fl with
    | ret u =>
      obtain ⟨v, H', J', rv, ev, q⟩ := J.after hq
      subst ev
      exact ⟨rv, ⟨V.ref (s.heap.objs.size + 1), H', J', rfl, q⟩⟩
    | _ => exact False.elim hq
def tMakeS (C : Addr) (sp : Sp) (E : L2.St → XK) (t : TA) : TE := fun σ H Q => t σ H fun vs H1 => ∀ q d, H1 q = none → H1 d = none → d ≠ q → sp (.ref q :: vs) (upd (upd H1 d (.own q)) q (.ins C d [])) (fun v H2 => v = .non ∧ Q (.ref q) H2) (E σ)
theorem ok_makeS {W : WX} (M : Mk X.K C f) (F : Ok X.prog X.w X.K X.mg X.base k f ps sp) (hr : Room (k + 1) X.A) (hg : Gl X x) (hm : X.mg x = some (.ref C)) (tk : Takes X W) (ha : PA X (e :: es) t)
    (hdb : (x == ("__debug__" : Str)) = false := by decide) (hst : starEach (e :: es) X.env = (false, eval e X.env) :: starEach es X.env := by rfl) (hns : (backTo pos (starEach es X.env)).any (·.1) = false := by rfl) :
    PE X (.Call (.Name x p) (e :: es) [] pos) (tMakeS C sp (fun σ cls d H => W cls d σ H) t) := by
  obtain ⟨fd, F1, b, kp⟩ := F
  constructor
  intro pins s σ H Q I h
  refine wpAny_Call_Name_kw (ld_glob I hg hm ?_ hdb)
  refine PySem.W.callWith_K (h₀ := X.base) I.ok.mod.kin M.kp (thn (ha.run pos pins s σ H _ I h) fun us s1 z => ?_) hst hns
  obtain ⟨vs, H1, I1, r, q⟩ := z
  exact ⟨I1.kIn, make_at M F1 hr b (passAt tk σ) I1 r q⟩
end
end AT

set_option maxHeartbeats 4000000
namespace AT
open PySem PySem.Spec PyProof.Rows L2
/-- lists of unlike lengths -/
def rNeL (K : PySem.W.Frag) : R2 := fun x y H Q => ∃ a b xs ys, x = .ref a ∧ y = .ref b ∧ SqL K H a xs ∧ SqL K H b ys ∧ xs.length ≠ ys.length ∧ Q (.bl true) H
theorem op_neL {X : Cx} (hu : X.A.units + 64 < cLine) : OpR X (compareOp .NotEq) (rNeL X.K) := by
  intro pins s σ H x y v u Q I rx ry h
  obtain ⟨a, b, xs, ys, rfl, rfl, ha, hb, hn, q⟩ := h
  cases rx
  cases ry
  obtain ⟨its, rv, pl, _⟩ := I.list ha
  obtain ⟨jts, rw, ql, _⟩ := I.list hb
  refine (SeqAt.RcNeAt.lists_lengths pl.isList ql.isList ?_ (by omega)) X.prog X.w X.xe _ ⟨.bl true, H, I, rfl, q⟩
  rw [List.size_toArray, List.size_toArray, ← rv.length, ← rw.length]
  simpa using hn
end AT

set_option maxHeartbeats 4000000
namespace AT
open PySem PySem.Spec PyProof.Rows L2
section
variable {X : Cx}
/-- a list that is not itself -/
def rNeLS (K : PySem.W.Frag) : R2 := fun x y H Q => ∃ a xs, x = .ref a ∧ y = .ref a ∧ SqL K H a xs ∧ Q (.bl false) H
theorem op_neLS (hu : X.A.units + 64 < cLine) : OpR X (compareOp .NotEq) (rNeLS X.K) := by
  intro pins s σ H x y v u Q I rx ry h
  obtain ⟨a, xs, rfl, rfl, ha, q⟩ := h
  cases rx
  cases ry
  obtain ⟨its, rv, pl, _⟩ := I.list ha
  refine (SeqAt.RcNeAt.lists (e := fun _ => true) pl.isList pl.isList rfl (by omega) (fun j _ _ => SeqAt.EqAt.same _)) X.prog X.w X.xe _ ?_
  exact ⟨.bl false, H, I, (by show _ = _; simp), q⟩
/-- b is not c, two truths -/
def rNtB : R2 := fun x y H Q => ∃ b c, x = .bl b ∧ y = .bl c ∧ Q (.bl (b != c)) H
theorem op_ntB : OpR X (compareOp .IsNot) rNtB := by
  intro pins s σ H x y v u Q I rx ry h
  obtain ⟨b, c, rfl, rfl, q⟩ := h
  cases rx
  cases ry
  exact isnot_bool ⟨.bl _, H, I, rfl, q⟩
end
end AT

set_option maxHeartbeats 4000000
namespace AT
open PySem PySem.Spec PyProof.Rows L2
section
open MeetsSeq MeetsSeq2 MeetsSeq3 SeqRoads2
open AutoSeq1 (wpAny_loadPart')
variable {prog : Program} {w : World} {A : Around}
/-- == of two tuples whose items are compared one by one, each comparison keeping J -/
theorem tupc_body {R : Result → Shared → Prop} {p q : Addr} {us vs : Array Value} {m1 m2 : Nat} {d1 d2 : Option Addr} {sl1 sl2 : Array (Option Value)} {e : Nat → Bool} {J : Shared → Prop} {t : Shared}
    (step : ∀ j (g1 : j < us.size) (g2 : j < vs.size) t, J t → wpAny (model prog w) A.in1 (eqBool us[j] vs[j]) (fun c t' => c = e j ∧ J t') (fun er t' => R (.error er) t') t)
    (done : ∀ t, J t → R (.ok (.ret (.bool ((List.range (min us.size vs.size)).all e && us.size == vs.size)))) t)
    (hp : t.heap.get? p = some { cls := .type "tuple", dict := d1, data := .seq us m1, slots := sl1 }) (hq : t.heap.get? q = some { cls := .type "tuple", dict := d2, data := .seq vs m2, slots := sl2 }) (h0 : J t) :
    wpAny (model prog w) A.in1 (Builtin.«tuple.__eq__» ⟨[.ref p, .ref q], []⟩) (GQ.FinOf prog w A R) (fun er t' => R (.error er) t') t := by
  have sb := AutoSeq1.sub_tuple_tuple
  have hZ : (us.toList.zip vs.toList).length = min us.size vs.size := by simp
  have keep := h0
  obtain ⟨x1, x2, x3, x4, x5⟩ := t
  wp_walk using wpAny_loadPart' hp, wpAny_loadPart' hq, wpAny_forIn_list _ (fun rest b t' => b.1 = none ∧ ∃ j, rest = (us.toList.zip vs.toList).drop j ∧ J t' ∧ (((List.range (min us.size vs.size)).take j).all e = true)) _
  case turn =>
    rintro ⟨y, x⟩ rest b t' ⟨hb, j, hz, hJ, hall⟩
    have hlt : j < (us.toList.zip vs.toList).length := by
      by_cases c : j < (us.toList.zip vs.toList).length
      · exact c
      · rw [List.drop_of_length_le (by omega)] at hz; cases hz
    have hm : j < min us.size vs.size := by omega
    have g1 : j < us.size := by omega
    have g2 : j < vs.size := by omega
    rw [List.drop_eq_getElem_cons hlt] at hz
    obtain ⟨e1, hrest⟩ := List.cons.inj hz
    have ey : y = us[j] := by simpa using congrArg Prod.fst e1
    have ex : x = vs[j] := by simpa using congrArg Prod.snd e1
    subst ey ex
    refine wpAny_bind (wpAny_mono (step j g1 g2 t' hJ) (fun c t2 z => ?_) fun _ _ z => z)
    obtain ⟨rfl, hJ2⟩ := z
    have hd : (List.range (min us.size vs.size)) = (List.range (min us.size vs.size)).take j ++ j :: (List.range (min us.size vs.size)).drop (j + 1) := by
      have h1 := (List.take_append_drop j (List.range (min us.size vs.size))).symm
      rw [List.drop_eq_getElem_cons (by simpa using hm)] at h1
      simpa using h1
    cases hc : e j with
    | true =>
      wp_walk
      refine ⟨rfl, j + 1, hrest, hJ2, ?_⟩
      rw [List.take_succ, List.all_append, hall, Bool.true_and]
      simp [hm, hc]
    | false =>
      have fin := done _ hJ2
      rw [hd, List.all_append, List.all_cons, hc] at fin
      wp_walk
      first | exact ⟨_, rfl, by simpa using fin⟩ | simpa using fin
  case fin =>
    rintro ⟨b1, b2⟩ t' ⟨hb, j, hz, hJ, hall⟩
    simp only at hb
    subst hb
    have hge : min us.size vs.size ≤ j := by
      by_cases c : j < (us.toList.zip vs.toList).length
      · rw [List.drop_eq_getElem_cons c] at hz; cases hz
      · omega
    have fin := done _ hJ
    rw [List.take_of_length_le (by simpa using hge)] at hall
    rw [hall, Bool.true_and] at fin
    wp_walk
    first | exact ⟨_, rfl, by simpa [Builtin.Tuple.tupleCompareSizes] using fin⟩ | simpa [Builtin.Tuple.tupleCompareSizes] using fin
  case h => exact ⟨rfl, 0, rfl, keep, by simp⟩
theorem tupc {E : Value → Shared → Prop} {Q : Value → Shared → Prop} {p q : Addr} {us vs : Array Value} {e : Nat → Bool} {J : Shared → Prop} {t : Shared} (hu : A.units < cLine) (hp : t.heap.IsTuple p us) (hq : t.heap.IsTuple q vs)
    (step : ∀ j (g1 : j < us.size) (g2 : j < vs.size) t, J t → wpAny (model prog w) A.in1 (eqBool us[j] vs[j]) (fun c t' => c = e j ∧ J t') E t)
    (done : ∀ t, J t → Q (.bool ((List.range (min us.size vs.size)).all e && us.size == vs.size)) t) (h0 : J t) : wpAny (model prog w) A (richCompare .Eq (.ref p) (.ref q)) Q E t := by
  obtain ⟨⟨c1, d1, t1, sl1⟩, g1, k1, m1, z1⟩ := id hp
  obtain ⟨⟨c2, d2, t2, sl2⟩, g2, k2, m2, z2⟩ := id hq
  simp only at k1 z1 k2 z2
  subst k1 z1 k2 z2
  refine wpAny_richCompare_same_room (op := .Eq) ⟨_, g1, rfl⟩ ⟨_, g2, rfl⟩ F.slot_tuple_eq (GQ.call_here F.slot_tuple_eq ⟨_, g1, rfl⟩ F.entry_tuple_eq (F.args_tuple_eq_2 _ _) ?_) hu
  exact tupc_body (R := wants (fun v t' => v ≠ .notImplemented ∧ Q v t') E) step (fun t' z => ⟨(fun x => nomatch x), done t' z⟩) g1 g2 h0
end
/-! ### == of nested tuples with instances of own classes, both answers; the abstract heap stays -/
abbrev Cmp := V → V → Hp → Bool → Prop
def EqB (X : Cx) (n : Nat) (D : Cmp) : Prop := ∀ (A : Around) (pins : List (Addr × Obj)) (s : Shared) (σ : L2.St) (H : Hp) (x y : V) (u v : Value) (b : Bool), Sub X n A → Inv X pins σ H s → RelV x u → RelV y v → D x y H b →
  wpAny (model X.prog X.w) A (eqBool u v) (fun r s' => r = b ∧ Inv X pins σ H s') X.xe s
def RcB (X : Cx) (n : Nat) (D : Cmp) : Prop := ∀ (A : Around) (pins : List (Addr × Obj)) (s : Shared) (σ : L2.St) (H : Hp) (x y : V) (u v : Value) (b : Bool), Sub X n A → Inv X pins σ H s → RelV x u → RelV y v → D x y H b →
  wpAny (model X.prog X.w) A (richCompare .Eq u v) (fun r s' => r = .bool b ∧ Inv X pins σ H s') X.xe s
section
variable {X : Cx} {n : Nat} {D : Cmp}
/-- the items, pair by pair -/
def Each (D : Cmp) (xs ys : List V) (H : Hp) (e : Nat → Bool) : Prop := ∀ (i : Nat) x y, xs[i]? = some x → ys[i]? = some y → D x y H (e i)
def CTup (K : PySem.W.Frag) (D : Cmp) : Cmp := fun x y H b => ∃ p q xs ys e, x = .ref p ∧ y = .ref q ∧ SqT K H p xs ∧ SqT K H q ys ∧ Each D xs ys H e ∧ b = ((List.range (min xs.length ys.length)).all e && xs.length == ys.length)
theorem rcB_tup (h : EqB X n D) : RcB X (n + 1) (CTup X.K D) := by
  intro A pins s σ H x y u v b sb I rx ry d
  obtain ⟨p, q, xs, ys, e, rfl, rfl, hp, hq, he, rfl⟩ := d
  cases rx
  cases ry
  obtain ⟨us, r1, t1, _⟩ := I.tuple hp
  obtain ⟨vs, r2, t2, _⟩ := I.tuple hq
  refine tupc (e := e) (J := fun t => Inv X pins σ H t) sb.room.units0 t1 t2 (fun j g1 g2 t It => ?_) (fun t It => ⟨?_, It⟩) I
  · rw [List.size_toArray] at g1 g2
    have k1 : j < xs.length := by rw [r1.length]; exact g1
    have k2 : j < ys.length := by rw [r2.length]; exact g2
    obtain ⟨u1, a1, b1⟩ := r1.get (List.getElem?_eq_getElem k1)
    obtain ⟨u2, a2, b2⟩ := r2.get (List.getElem?_eq_getElem k2)
    rw [List.getElem?_eq_getElem g1] at a1
    rw [List.getElem?_eq_getElem g2] at a2
    cases a1
    cases a2
    exact h A.in1 pins t σ H _ _ _ _ _ sb.in1 It b1 b2 (he j _ _ (List.getElem?_eq_getElem k1) (List.getElem?_eq_getElem k2))
  · rw [List.size_toArray, List.size_toArray, ← r1.length, ← r2.length]
/-- within a tuple the very same object is equal to itself -/
theorem RcB.eqB (h : RcB X n D) (hr : ∀ x y H b, D x y H b → ∃ p q, x = .ref p ∧ y = .ref q ∧ (p = q → b = true)) : EqB X n D := by
  intro A pins s σ H x y u v b sb I rx ry d
  obtain ⟨p, q, rfl, rfl, hb⟩ := hr _ _ _ _ d
  cases rx
  cases ry
  by_cases c : p = q
  · subst c
    rw [hb rfl]
    exact SeqAt.EqAt.same (A := A) (s := s) (.ref p) X.prog X.w X.xe _ ⟨rfl, I⟩
  · refine GQ.eqBool_refG c (wpAny_mono (h A pins s σ H (.ref p) (.ref q) _ _ b sb I rfl rfl d) (fun r s' z => ?_) fun _ _ z => z)
    exact ⟨b, z.1, rfl, z.2⟩
/-- instances of the class C, by its own __eq__ -/
def CIns (C : Addr) (R : Addr → Addr → Hp → Bool → Prop) : Cmp := fun x y H b => ∃ p q d1 d2 f1 f2, x = .ref p ∧ y = .ref q ∧ H p = some (.ins C d1 f1) ∧ H q = some (.ins C d2 f2) ∧ R p q H b
theorem rcB_ins {k : Nat} {C f : Addr} {ps : List Str} {sp : Sp} {E : XK} {R : Addr → Addr → Hp → Bool → Prop} (O : EqC X.K C f) (F : Ok X.prog X.w X.K X.mg X.base k f ps sp) (hx : Passes (L2.CX X.prog X.w) X E)
    (hsp : ∀ p q H b, R p q H b → sp [.ref p, .ref q] H (fun v H' => v = .bl b ∧ H' = H) E) : RcB X k (CIns C R) := by
  intro A pins s σ H x y u v b sb I rx ry d
  obtain ⟨p, q, d1, d2, f1, f2, rfl, rfl, hp, hq, hR⟩ := d
  obtain ⟨fd, F1, bd, kp⟩ := F
  cases rx
  cases ry
  obtain ⟨mA, J1, _⟩ := ins_get I.hok hp
  obtain ⟨mB, J2, _⟩ := ins_get I.hok hq
  obtain ⟨o1, J1, _⟩ := J1.look
  obtain ⟨o2, J2, _⟩ := J2.look
  obtain ⟨m, hF⟩ := I.fr
  refine PySem.W.cmp_K (op := .Eq) (tb := .ref C) sb.room.units0 hF I.ok.mod.kin J1 J2.type (by simp [PySem.W.notFirst]) O.find O.fn ?_
  refine wpAny_mono (run_in (us := [.ref p, .ref q]) (vs := [.ref p, .ref q]) sb.fr F1 sb.room bd hx I (.cons rfl (.cons rfl .nil)) (hsp p q H b hR)) (fun r s' z => ?_) fun _ _ z => z
  obtain ⟨x1, H1, I1, r1, rfl, rfl⟩ := z
  cases r1
  exact ⟨rfl, I1⟩
theorem eqB_ins {k : Nat} {C f : Addr} {ps : List Str} {sp : Sp} {E : XK} {R : Addr → Addr → Hp → Bool → Prop} (O : EqC X.K C f) (F : Ok X.prog X.w X.K X.mg X.base k f ps sp) (hx : Passes (L2.CX X.prog X.w) X E)
    (hsp : ∀ p q H b, R p q H b → sp [.ref p, .ref q] H (fun v H' => v = .bl b ∧ H' = H) E) (hs : ∀ p H b, R p p H b → b = true) : EqB X k (CIns C R) :=
  (rcB_ins O F hx hsp).eqB fun x y H b d => by
    obtain ⟨p, q, _, _, _, _, hx, hy, _, _, hR⟩ := d
    exact ⟨p, q, hx, hy, fun z => by subst z; exact hs p H b hR⟩
/-- x == y -/
def rEqB (D : Cmp) : R2 := fun x y H Q => ∃ b, D x y H b ∧ Q (.bl b) H
theorem op_eqB (h : RcB X n D) (hr : Room n X.A) : OpR X (compareOp .Eq) (rEqB D) := by
  intro pins s σ H x y v u Q I rx ry hq
  obtain ⟨b, d, q⟩ := hq
  show wpAny (model X.prog X.w) X.A (richCompare .Eq v u) (EP X pins σ Q) X.xe s
  refine wpAny_mono (h X.A pins s σ H x y v u b ⟨hr, rfl⟩ I rx ry d) (fun r s' z => ?_) fun _ _ z => z
  obtain ⟨rfl, I'⟩ := z
  exact ⟨.bl b, H, I', rfl, q⟩
end
end AT

set_option maxHeartbeats 4000000
namespace AT
open PySem PySem.Spec PyProof.Rows L2
/-! ### instances called, classes made with all defaults -/
def coB (x : Str) (K : PySem.W.Frag) : Bool := He.eqO (PySem.W.findIn K (.ref (He.ga K x)) "__call__") (some (some (.ref (He.ma K (He.ga K x) "__call__")))) && (PySem.W.isFn K (.ref (He.ma K (He.ga K x) "__call__")) && PySem.W.fnIn K (He.ma K (He.ga K x) "__call__"))
theorem co_ok {x : Str} {K : PySem.W.Frag} (h : coB x K = true) : StX.CallO K (He.ga K x) (He.ma K (He.ga K x) "__call__") := by
  unfold coB at h
  simp only [Bool.and_eq_true] at h
  exact ⟨He.eqO_ok h.1, h.2.1, h.2.2⟩
section
variable {X : Cx} {k : Nat} {f C g : Addr} {ps : List Str} {sp : Sp} {dvs : List V} {E : XK} {x : Str} {p pos : Pos} {e fe : Expr} {es : List Expr} {tf : TE} {t : TA}
theorem ok_callO (c : StX.CallO X.K C g) (F : Ok X.prog X.w X.K X.mg X.base k g ps sp) (hr : Room k X.A) (hx : Passes (L2.CX X.prog X.w) X E) (hf : PE X fe tf) (ha : PA X (e :: es) t)
    (ht : eval (.Call fe (e :: es) [] pos) X.env = (do callWith pos (← eval fe X.env) [] (backTo pos (starEach (e :: es) X.env)) (backToKw pos (keywordEach [] X.env))) := by rfl)
    (he : starEach (e :: es) X.env = (false, eval e X.env) :: starEach es X.env := by rfl) (hpl : (backTo pos (starEach es X.env)).any (·.1) = false := by rfl) : PE X (.Call fe (e :: es) [] pos) (StX.tCallO X C sp E tf t) := by
  obtain ⟨fd, F1, b, kp⟩ := F
  exact StX.pe_callO hf c ((FnOk.raw F1 b .nil).imp fun vs H Q E h => by rw [List.append_nil]; exact h) hr hx ha ht he hpl
theorem ok_makeD0 (M : Mk X.K C f) (F : OkD X.prog X.w X.K X.mg X.base k f ps dvs sp) (hr : Room (k + 1) X.A) (hg : Gl X x) (hm : X.mg x = some (.ref C)) (hx : Passes (L2.CX X.prog X.w) X E)
    (hdb : (x == ("__debug__" : Str)) = false := by decide) : PE X (.Call (.Name x p) [] [] pos) (tMake C sp dvs E tNil) := by
  obtain ⟨fd, ds, F1, vd, b, kp⟩ := F
  exact pe_make0 M F1 hr hg hm b vd hx hdb
end
/-! ### tuples within tuples -/
section
variable {X : Cx} {n : Nat} {D : Cmp}
def Refl (D : Cmp) : Prop := ∀ x H b, D x x H b → b = true
/-- tuples that stand in the heap -/
def CTuH (D : Cmp) : Cmp := fun x y H b => ∃ p q xs ys e, x = .ref p ∧ y = .ref q ∧ H p = some (.tup xs) ∧ H q = some (.tup ys) ∧ Each D xs ys H e ∧ b = ((List.range (min xs.length ys.length)).all e && xs.length == ys.length)
theorem CTuH.refl (h : Refl D) : Refl (CTuH D) := by
  rintro x H b ⟨p, q, xs, ys, e, rfl, e1, h1, h2, he, rfl⟩
  cases e1
  rw [h1] at h2
  cases h2
  simp only [Nat.min_self, beq_self_eq_true, Bool.and_true, List.all_eq_true, List.mem_range]
  intro i hi
  exact h _ _ _ (he i _ _ (List.getElem?_eq_getElem hi) (List.getElem?_eq_getElem hi))
theorem rcB_tuH (h : EqB X n D) : RcB X (n + 1) (CTuH D) := fun A pins s σ H x y u v b sb I rx ry d => by
  obtain ⟨p, q, xs, ys, e, h1, h2, h3, h4, h5, h6⟩ := d
  exact rcB_tup h A pins s σ H x y u v b sb I rx ry ⟨p, q, xs, ys, e, h1, h2, SqT.of h3, SqT.of h4, h5, h6⟩
theorem eqB_tuH (h : EqB X n D) (hs : Refl D) : EqB X (n + 1) (CTuH D) := (rcB_tuH h).eqB fun x y H b d => by
  obtain ⟨p, q, xs, ys, e, h1, h2, h3⟩ := id d
  refine ⟨p, q, h1, h2, fun z => ?_⟩
  subst z
  rw [h1, h2] at d
  exact CTuH.refl hs _ _ _ d
end
end AT

set_option maxHeartbeats 4000000
namespace AT
open PySem PySem.Spec PyProof.Rows L2
section
variable {X : Cx}
/-- a list compared with an empty one -/
def Emp (K : PySem.W.Frag) (x y : V) (H : Hp) (xs : List V) : Prop := ∃ a b, x = .ref a ∧ y = .ref b ∧ SqL K H a xs ∧ SqL K H b []
def rEqE (K : PySem.W.Frag) : R2 := fun x y H Q => ∃ xs, Emp K x y H xs ∧ Q (.bl xs.isEmpty) H
def rNeE (K : PySem.W.Frag) : R2 := fun x y H Q => ∃ xs, Emp K x y H xs ∧ Q (.bl (!xs.isEmpty)) H
theorem op_eqE (hu : X.A.units + 64 < cLine) : OpR X (compareOp .Eq) (rEqE X.K) := by
  intro pins s σ H x y v u Q I rx ry h
  obtain ⟨xs, ⟨a, b, rfl, rfl, ha, hb⟩, q⟩ := h
  cases rx
  cases ry
  obtain ⟨its, rv, pl, _⟩ := I.list ha
  obtain ⟨jts, rw, ql, _⟩ := I.list hb
  cases rw
  cases xs with
  | nil =>
    cases rv
    refine (SeqAt.RcAt.lists (e := fun _ => true) pl.isList ql.isList rfl (by omega) (fun j h _ => absurd h (by simp))) X.prog X.w X.xe _ ⟨.bl true, H, I, (by show _ = _; simp), q⟩
  | cons z zs =>
    cases rv with
    | cons r1 r2 => refine (SeqAt.RcAt.lists_lengths pl.isList ql.isList (by simp) (by omega)) X.prog X.w X.xe _ ⟨.bl false, H, I, rfl, q⟩
theorem op_neE (hu : X.A.units + 64 < cLine) : OpR X (compareOp .NotEq) (rNeE X.K) := by
  intro pins s σ H x y v u Q I rx ry h
  obtain ⟨xs, ⟨a, b, rfl, rfl, ha, hb⟩, q⟩ := h
  cases rx
  cases ry
  obtain ⟨its, rv, pl, _⟩ := I.list ha
  obtain ⟨jts, rw, ql, _⟩ := I.list hb
  cases rw
  cases xs with
  | nil =>
    cases rv
    refine (SeqAt.RcNeAt.lists (e := fun _ => true) pl.isList ql.isList rfl (by omega) (fun j h _ => absurd h (by simp))) X.prog X.w X.xe _ ⟨.bl false, H, I, (by show _ = _; simp), q⟩
  | cons z zs =>
    cases rv with
    | cons r1 r2 => refine (SeqAt.RcNeAt.lists_lengths pl.isList ql.isList (by simp) (by omega)) X.prog X.w X.xe _ ⟨.bl true, H, I, rfl, q⟩
end
end AT

set_option maxHeartbeats 4000000
namespace AT
open PySem L2
theorem cut_to (xs : List V) (k : Nat) : cutV xs none (some (k : Int)) = xs.take k := by
  unfold cutV
  rw [HT.sIx_nat, HT.sIx_none, List.drop_zero, Nat.sub_zero]
  by_cases h : k ≤ xs.length
  · rw [Nat.min_eq_left h]
  · rw [Nat.min_eq_right (by omega), List.take_length, List.take_of_length_le (by omega)]
theorem cut_from (xs : List V) (k : Nat) : cutV xs (some (k : Int)) none = xs.drop k := by
  unfold cutV
  rw [HT.sIx_nat, HT.sIx_none]
  by_cases h : k ≤ xs.length
  · rw [Nat.min_eq_left h]
    exact List.take_of_length_le (by simp)
  · rw [Nat.min_eq_right (by omega), List.drop_of_length_le (by omega), List.drop_of_length_le (by omega)]
    simp
theorem cut_last (xs : List V) : cutV xs (some (-1)) none = xs.drop (xs.length - 1) := by
  unfold cutV
  have e : HT.sIx xs.length 0 (some (-1)) = xs.length - 1 := by
    show (if (-1 : Int) < 0 then ((-1 : Int) + (xs.length : Int)).toNat else min (-1 : Int).toNat xs.length) = _
    rw [if_pos (by decide)]
    omega
  rw [e, HT.sIx_none]
  exact List.take_of_length_le (by simp)
end AT

set_option maxHeartbeats 4000000
namespace AT
open PySem PySem.Spec PyProof.Rows L2
/-- tuple(x), its question by the written part K -/
def rTupOf (K : PySem.W.Frag) : List V → Hp → VK → Prop := fun xs H Q => ∃ p ys, xs = [.ref p] ∧ ((SqL K H p ys ∧ ∀ l, H l = none → Q (.ref l) (upd H l (.tup ys))) ∨ (SqT K H p ys ∧ Q (.ref p) H))
theorem call_tupK {X : Cx} : CallR X (.type "tuple") (rTupOf X.K) := call_tuple_of
end AT

set_option maxHeartbeats 4000000
namespace AT
open PySem PySem.Spec PyProof.Rows L2
section
open MeetsSeq MeetsSeq2 MeetsSeq3 SeqRoads2
open AutoSeq1 (wpAny_loadPart')
variable {prog : Program} {w : World} {A : Around}
/-- x in a list, item by item, each comparison keeping J -/
theorem inc_loop {R : Result → Shared → Prop} {l : Addr} {us : Array Value} {x : Value} {e : Nat → Bool} {J : Shared → Prop}
    (read : ∀ t, J t → ∃ m, t.heap.get? l = some { cls := .type "list", data := .seq us m })
    (step : ∀ j (g : j < us.size) t, J t → wpAny (model prog w) A.in1 (eqBool us[j] x) (fun c t' => c = e j ∧ J t') (fun er t' => R (.error er) t') t)
    (done : ∀ t, J t → R (.ok (.ret (.bool ((List.range us.size).any e)))) t) : ∀ (d j : Nat), us.size - j = d → j ≤ us.size → (∀ i, i < j → e i = false) → ∀ t, J t →
      wpAny (model prog w) A.in1 (Builtin.«list.__contains__.loop» ⟨[.ref l, x, rawInt j], []⟩) (GQ.FinOf prog w A R) (fun er t' => R (.error er) t') t
  | 0, j, hd, hj, hlow, t, hJ => by
    obtain ⟨m, hl⟩ := read t hJ
    have fin := done t hJ
    have ej : j = us.size := by omega
    have none_ : (List.range us.size).any e = false := by
      rw [List.any_eq_false]
      intro i hi
      rw [hlow i (by rw [ej]; exact List.mem_range.mp hi)]
      decide
    rw [none_] at fin
    obtain ⟨x1, x2, x3, x4, x5⟩ := t
    wp_walk using wpAny_loadPart' hl
    have hi : us[((j : Nat) : Int).toNat]? = none := by simp; omega
    rw [hi]
    wp_walk
    exact fin
  | d + 1, j, hd, hj, hlow, t, hJ => by
    obtain ⟨m, hl⟩ := read t hJ
    have hlt : j < us.size := by omega
    have st := step j hlt t hJ
    obtain ⟨x1, x2, x3, x4, x5⟩ := t
    wp_walk using wpAny_loadPart' hl
    have hi : us[((j : Nat) : Int).toNat]? = some us[j] := by simp [hlt]
    have hc : ((j : Int) + 1) = ((j + 1 : Nat) : Int) := by omega
    rw [hi]
    refine wpAny_bind (wpAny_mono st (fun c t2 z => ?_) fun _ _ z => z)
    obtain ⟨rfl, hJ2⟩ := z
    cases ec : e j with
    | true =>
      have fin := done t2 hJ2
      have yes : (List.range us.size).any e = true := by
        rw [List.any_eq_true]
        exact ⟨j, List.mem_range.mpr hlt, ec⟩
      rw [yes] at fin
      obtain ⟨y1, y2, y3, y4, y5⟩ := t2
      wp_walk
      exact fin
    | false =>
      have rest := inc_loop read step done d (j + 1) (by omega) hlt (fun i hi => by
        by_cases c : i = j
        · rw [c]; exact ec
        · exact hlow i (by omega)) t2 hJ2
      obtain ⟨y1, y2, y3, y4, y5⟩ := t2
      wp_walk
      rw [hc]
      exact ⟨plainId_quiet plain_contains_loop _, codeAny_builtin entry_contains_loop (by
        rw [Around.under_plainId plain_contains_loop _]
        exact rest)⟩
theorem inc_call {Q : Value → Shared → Prop} {E : Value → Shared → Prop} {l : Addr} {us : Array Value} {x : Value} {e : Nat → Bool} {J : Shared → Prop} {t : Shared}
    (read : ∀ t, J t → ∃ m, t.heap.get? l = some { cls := .type "list", data := .seq us m })
    (step : ∀ j (g : j < us.size) t, J t → wpAny (model prog w) A.in1 (eqBool us[j] x) (fun c t' => c = e j ∧ J t') E t)
    (done : ∀ t, J t → Q (.bool ((List.range us.size).any e)) t) (h : J t) : wpAny (model prog w) A (call (.builtin "list.__contains__") [.ref l, x]) Q E t := by
  obtain ⟨m, hl⟩ := read t h
  refine GQ.call_here F.slot_list_contains ⟨_, hl, rfl⟩ F.entry_list_contains (F.args_list_contains_2 _ _) ?_
  have go := inc_loop (A := A) (R := wants Q E) (us := us) (e := e) (J := J) (x := x) (l := l) read step (fun t' z => done t' z) _ 0 rfl (Nat.zero_le _) (fun i hi => absurd hi (Nat.not_lt_zero _)) t h
  obtain ⟨x1, x2, x3, x4, x5⟩ := t
  wp_walk using wpAny_loadPart' hl
  exact ⟨plainId_quiet plain_contains_loop _, codeAny_builtin entry_contains_loop (by
    rw [Around.under_plainId plain_contains_loop _]
    exact go)⟩
end
section
variable {X : Cx} {n : Nat} {D : Cmp}
theorem refs_vals : ∀ {xs : List V} {us vs : List Value}, (∀ z ∈ xs, ∃ a, z = .ref a) → Vals xs us → Vals xs vs → us = vs
  | [], _, _, _, .nil, .nil => rfl
  | x :: xs, _, _, h, .cons r1 r2, .cons q1 q2 => by
    obtain ⟨a, rfl⟩ := h x (by simp)
    cases r1
    cases q1
    rw [refs_vals (fun z hz => h z (List.mem_cons_of_mem _ hz)) r2 q2]
/-- x not in xs, a list of objects with own == -/
def rNiB (D : Cmp) : R2 := fun x y H Q => ∃ l xs e, y = .ref l ∧ H l = some (.lst xs) ∧ (∀ z ∈ xs, ∃ a, z = .ref a) ∧ (∀ (i : Nat) z, xs[i]? = some z → D z x H (e i)) ∧ Q (.bl (!(List.range xs.length).any e)) H
theorem op_niB (h : EqB X n D) (hr : Room (n + 1) X.A) : OpR X (compareOp .NotIn) (rNiB D) := by
  intro pins s σ H x y v u Q I rx ry hq
  obtain ⟨l, xs, e, rfl, hl, hrf, hd, q⟩ := hq
  cases ry
  obtain ⟨hz, its, m, rv, ho⟩ := I.hok l _ hl
  show wpAny _ X.A (do return Value.bool (!(← contains (.ref l) v))) _ _ s
  refine wpAny_bind (wpAny_contains_slot ⟨_, ho, rfl⟩ F.slot_list_contains (wpAny_mono (inc_call (A := X.A) (us := its.toArray) (e := e) (J := fun t => Inv X pins σ H t) (Q := fun w t => ∃ b, w = Value.bool b ∧ Inv X pins σ H t ∧ b = (List.range xs.length).any e) (fun t It => ?_) (fun j g t It => ?_) (fun t It => ?_) I) (fun w t z => ?_) fun _ _ z => z))
  · obtain ⟨hz2, its2, m2, rv2, ho2⟩ := It.hok l _ hl
    rw [refs_vals hrf rv rv2]
    exact ⟨m2, ho2⟩
  · rw [List.size_toArray] at g
    have k1 : j < xs.length := by rw [rv.length]; exact g
    obtain ⟨u1, a1, r1⟩ := rv.get (List.getElem?_eq_getElem k1)
    rw [List.getElem?_eq_getElem g] at a1
    cases a1
    exact h X.A.in1 pins t σ H _ _ _ _ _ ⟨hr.in1, rfl⟩ It r1 rx (hd j _ (List.getElem?_eq_getElem k1))
  · exact ⟨_, rfl, It, by rw [List.size_toArray, ← rv.length]⟩
  · obtain ⟨b, rfl, It, rfl⟩ := z
    exact wpAny_truthy_bool (wpAny_pure ⟨.bl _, H, It, rfl, q⟩)
end
end AT

set_option maxHeartbeats 4000000
namespace AT
open PySem PySem.Spec PyProof.Rows L2
/-! ### methods and instances called in a try's body -/
section
variable {X : Cx} {k : Nat} {f C g : Addr} {ps : List Str} {sp : Sp} {x m : Str} {p pos apos : Pos} {e o fe : Expr} {es : List Expr} {ta tf : TE} {t : TA}
def tMethS (C : Addr) (m : Str) (sp : Sp) (E : L2.St → XK) (ta : TE) (t : TA) : TE := fun σ H Q => ta σ H fun x H1 => ∃ a dx fs, x = .ref a ∧ H1 a = some (.ins C dx fs) ∧ fs.lookup m = none ∧
  t σ H1 fun vs H2 => sp (x :: vs) H2 Q (E σ)
theorem ok_methS {W : WX} {pl : Sem Bool} (c : Cls X.K C) (hm : Meth X.K C m f) (F : Ok X.prog X.w X.K X.mg X.base k f ps sp) (hr : Room k X.A) (tk : Takes X W) (he : PE X o ta) (ha : PA X (e :: es) t)
    (hst : starEach (e :: es) X.env = (false, eval e X.env) :: starEach es X.env := by rfl) (hpl : (backTo pos (starEach es X.env)).any (·.1) = false := by rfl)
    (ht : eval (.Call (.Attribute o m apos) (e :: es) [] pos) X.env = (do
      let w0 ← eval o X.env
      standAt apos.atName
      let (g0, us0) ← holding [w0] (getMethod w0 m pl)
      callWith pos g0 us0 (backTo pos (starEach (e :: es) X.env)) (backToKw pos (keywordEach [] X.env))) := by rfl) :
    PE X (.Call (.Attribute o m apos) (e :: es) [] pos) (tMethS C m sp (fun σ cls d H => W cls d σ H) ta t) := by
  obtain ⟨fd, F1, b, kp⟩ := F
  refine ⟨fun pins s σ H Q I h => ?_⟩
  refine PySem.W.methodCall_KW (pl := pl) (thn (he.run pins s σ H _ I h) fun u s1 ⟨x, H1, I1, rx, a, dx, fs, ex, ea, l, q⟩ => ?_) ht
  subst ex
  obtain rfl : u = Value.ref a := rx
  refine getmeth_ok I1 ea c hm l ?_
  refine PySem.W.callWith_K (first := [.ref a]) (h₀ := X.base) I.ok.mod.kin hm.kp (thn (ha.run pos pins s1 σ H1 _ I1 q) fun us s2 ⟨vs, H2, I2, r, q2⟩ => ⟨I2.kIn, ?_⟩) hst hpl
  exact run_fnSD (us := .ref a :: us) (vs := .ref a :: vs) (dvs := []) (E := fun σ cls d H => W cls d σ H) F1 hr b .nil (passAt tk σ) I2 (.cons rfl r) (by rw [List.append_nil]; exact q2)
def tCallOS (C : Addr) (sp : Sp) (E : L2.St → XK) (tf : TE) (t : TA) : TE := fun σ H Q => tf σ H fun y H1 => ∃ a, y = V.ref a ∧ t σ H1 fun vs H2 => (∃ dx fs, H2 a = some (.ins C dx fs)) ∧ sp (V.ref a :: vs) H2 Q (E σ)
theorem ok_callOS {W : WX} (c : StX.CallO X.K C g) (F : Ok X.prog X.w X.K X.mg X.base k g ps sp) (hr : Room k X.A) (tk : Takes X W) (hf : PE X fe tf) (ha : PA X (e :: es) t)
    (ht : eval (.Call fe (e :: es) [] pos) X.env = (do callWith pos (← eval fe X.env) [] (backTo pos (starEach (e :: es) X.env)) (backToKw pos (keywordEach [] X.env))) := by rfl)
    (he : starEach (e :: es) X.env = (false, eval e X.env) :: starEach es X.env := by rfl) (hpl : (backTo pos (starEach es X.env)).any (·.1) = false := by rfl) : PE X (.Call fe (e :: es) [] pos) (tCallOS C sp (fun σ cls d H => W cls d σ H) tf t) := by
  obtain ⟨fd, F1, b, kp⟩ := F
  refine ⟨fun pins s σ H Q I h => ?_⟩
  refine Call_ (thn (hf.run pins s σ H _ I h) fun u s1 ⟨y, H1, I1, ry, a, ey, q⟩ => ?_) ht
  subst ey
  obtain rfl : u = Value.ref a := ry
  refine StX.callO_with (thn (ha.run pos pins s1 σ H1 _ I1 q) fun us s2 ⟨vs, H2, I2, r, hi, q2⟩ => ?_) he hpl
  obtain ⟨ox, od, J, hd⟩ := StX.insC_at I2 (.inr hi)
  refine ⟨⟨C, ox, od, J, hd⟩, wpAny_call (PySem.W.kco_code I2.kIn J hd c.at_ c.fn c.fi ?_)⟩
  have r2 : Vals (V.ref a :: vs) (Value.ref a :: us) := .cons rfl r
  have hl : (Value.ref a :: us).length = ps.length := by rw [← r2.length]; exact F1.len _ _ _ _ q2
  have bd := b s2 (Value.ref a :: us) I2.kIn (by simpa using hl)
  rw [List.append_nil] at bd
  refine codeAny_mono (F1.run X.A X.stack s2 H2 ⟨Value.ref a :: us, []⟩ (Value.ref a :: us) (V.ref a :: vs) Q _ hr I2.env0 bd r2 q2) fun r s' hq => ?_
  cases r with
  | error e => exact passAt tk σ pins H2 s2 e s' I2 hq
  | ok fl =>
    cases fl with
    | ret u => exact I2.after hq
    | next => exact False.elim hq
    | brk => exact False.elim hq
    | cont => exact False.elim hq
/-- an instance called, told without the context (for a comprehension's block) -/
def tCallI (C : Addr) (sp : Sp) (E : XK) (tf : TE) (t : TA) : TE := fun σ H Q => tf σ H fun y H1 => ∃ a, y = V.ref a ∧ t σ H1 fun vs H2 => (∃ dx fs, H2 a = some (.ins C dx fs)) ∧ sp (V.ref a :: vs) H2 Q E
theorem ok_callI {E : XK} (c : StX.CallO X.K C g) (F : Ok X.prog X.w X.K X.mg X.base k g ps sp) (hr : Room k X.A) (hx : Passes (L2.CX X.prog X.w) X E) (hf : PE X fe tf) (ha : PA X (e :: es) t)
    (ht : eval (.Call fe (e :: es) [] pos) X.env = (do callWith pos (← eval fe X.env) [] (backTo pos (starEach (e :: es) X.env)) (backToKw pos (keywordEach [] X.env))) := by rfl)
    (he : starEach (e :: es) X.env = (false, eval e X.env) :: starEach es X.env := by rfl) (hpl : (backTo pos (starEach es X.env)).any (·.1) = false := by rfl) : PE X (.Call fe (e :: es) [] pos) (tCallI C sp E tf t) := by
  obtain ⟨fd, F1, b, kp⟩ := F
  have FR := (FnOk.raw F1 b .nil).imp (sp' := sp) fun vs H Q E h => by rw [List.append_nil]; exact h
  refine ⟨fun pins s σ H Q I h => ?_⟩
  refine Call_ (thn (hf.run pins s σ H _ I h) fun u s1 ⟨y, H1, I1, ry, a, ey, q⟩ => ?_) ht
  subst ey
  obtain rfl : u = Value.ref a := ry
  refine StX.callO_with (thn (ha.run pos pins s1 σ H1 _ I1 q) fun us s2 ⟨vs, H2, I2, r, hi, q2⟩ => ?_) he hpl
  obtain ⟨ox, od, J, hd⟩ := StX.insC_at I2 (.inr hi)
  exact ⟨⟨C, ox, od, J, hd⟩, StX.run_callO c FR hr hx I2 (.inr hi) r q2⟩
end
end AT

set_option maxHeartbeats 4000000
namespace AT
open PySem PySem.Spec PyProof.Rows L2
section
open MeetsSeq MeetsSeq2 MeetsSeq3 SeqRoads2 GQ
open AutoSeq1 (wpAny_loadPart')
variable {prog : Program} {w : World} {A : Around} {R : Result → Shared → Prop} {E : Value → Shared → Prop} {s : Shared}
/-- != of two lists whose items are equal one by one -/
theorem ne_loopG (l b : Addr) (N : Nat) (I : Nat → Shared → Prop) (hl : ListI prog w A (fun e s' => R (.error e) s') l b N I)
    (fin : ∀ s, I N s → R (.ok (.ret (.bool false))) s) (k : Nat) :
    ∀ i : Nat, N - i = k → i ≤ N → ∀ s, I i s →
      wpAny (model prog w) A.in1 (Builtin.«list.__eq__.loop» ⟨[.ref l, .ref b, rawInt i, rawInt 3], []⟩) (FinOf prog w A R) (fun e s' => R (.error e) s') s := by
  induction k with
  | zero =>
    intro i hk hi s h
    obtain ⟨items, items2, n, n2, hl1, hb1, hs1, hs2, _⟩ := hl _ _ h
    have hi' : i = N := by omega
    have hR : R (.ok (.ret (.bool false))) s := fin s (hi' ▸ h)
    obtain ⟨hp, g, d, tk, os⟩ := s
    wp_walk using wpAny_loadPart' hl1, wpAny_loadPart' hb1
    have hi1 : items[((i : Nat) : Int).toNat]? = none := by simp; omega
    have hi2 : items2[((i : Nat) : Int).toNat]? = none := by simp; omega
    rw [hi1, hi2]
    wp_walk using wpAny_loadPart' hl1, wpAny_loadPart' hb1
    show R (.ok (.ret (.bool (items.size != items2.size)))) _
    rw [hs1, hs2]
    simpa using hR
  | succ k ih =>
    intro i hk hi s h
    obtain ⟨items, items2, n, n2, hl1, hb1, hs1, hs2, turn⟩ := hl _ _ h
    have hlt : i < items.size := by omega
    have hlt2 : i < items2.size := by omega
    have ht := turn hlt hlt2
    obtain ⟨hp, g, d, tk, os⟩ := s
    wp_walk using wpAny_loadPart' hl1, wpAny_loadPart' hb1
    have hi1 : items[((i : Nat) : Int).toNat]? = some items[i] := by simp [hlt]
    have hi2 : items2[((i : Nat) : Int).toNat]? = some items2[i] := by simp [hlt2]
    have hc : ((i : Int) + 1) = ((i + 1 : Nat) : Int) := by omega
    rw [hi1, hi2]
    refine wpAny_bind (wpAny_mono ht (fun r s2 h2 => ?_) fun _ _ x => x)
    obtain ⟨hr, h2⟩ := h2
    subst hr
    have hrec := ih (i + 1) (by omega) (by omega) s2 h2
    obtain ⟨hp2, g2, d2, tk2, os2⟩ := s2
    wp_walk
    rw [hc]
    exact ⟨plainId_quiet plain_eq_loop _, codeAny_builtin entry_eq_loop (by
      rw [Around.under_plainId plain_eq_loop _]
      exact hrec)⟩
theorem list_neG (l b : Addr) (N : Nat) (I : Nat → Shared → Prop) (hl : ListI prog w A (fun e s' => R (.error e) s') l b N I)
    (fin : ∀ s, I N s → R (.ok (.ret (.bool false))) s) {s : Shared} (h : I 0 s) :
    wpAny (model prog w) A.in1 (Builtin.«list.__ne__» ⟨[.ref l, .ref b], []⟩) (FinOf prog w A R) (fun e s' => R (.error e) s') s := by
  obtain ⟨items, items2, n, n2, hl1, hb1, hs1, hs2, _⟩ := hl _ _ h
  have hrec := ne_loopG (A := A) (R := R) l b N I hl fin _ 0 rfl (Nat.zero_le _) s h
  obtain ⟨hp, g, d, tk, os⟩ := s
  have f3 := AutoSeq1.sub_list_list
  have hne : ¬ (items.size != items2.size) = true := by simp [hs1, hs2]
  wp_walk using wpAny_loadPart' hl1, wpAny_loadPart' hb1
  exact ⟨plainId_quiet plain_eq_loop _, codeAny_builtin entry_eq_loop (by
    rw [Around.under_plainId plain_eq_loop _]
    exact hrec)⟩
theorem rc_listN {l b : Addr} {N : Nat} {Q : Value → Shared → Prop} (hu : A.units < cLine) (I : Nat → Shared → Prop) (hl : ListI prog w A E l b N I)
    (fin : ∀ s, I N s → Q (.bool false) s) (h : I 0 s) : wpAny (model prog w) A (richCompare .NotEq (.ref l) (.ref b)) Q E s := by
  obtain ⟨items, items2, n, n2, hl1, hb1, _, _, _⟩ := hl _ _ h
  refine wpAny_richCompare_same_room (op := .NotEq) ⟨_, hl1, rfl⟩ ⟨_, hb1, rfl⟩ F.slot_list_ne (call_here F.slot_list_ne ⟨_, hl1, rfl⟩ F.entry_list_ne (F.args_list_ne_2 _ _) ?_) hu
  exact list_neG (R := wants (fun v s' => v ≠ .notImplemented ∧ Q v s') E) l b N I hl (fun s' q => ⟨(fun x => nomatch x), fin s' q⟩) h
end
section
variable {X : Cx} {n m : Nat} {D D' : Cmp}
theorem EqB.mono (h : EqB X n D) (hn : n ≤ m) : EqB X m D := fun A pins s σ H x y u v b sb => h A pins s σ H x y u v b (sb.mono hn)
theorem EqB.or (h : EqB X n D) (h' : EqB X n D') : EqB X n (fun x y H b => D x y H b ∨ D' x y H b) := fun A pins s σ H x y u v b sb I rx ry d => by
  rcases d with d | d
  · exact h A pins s σ H x y u v b sb I rx ry d
  · exact h' A pins s σ H x y u v b sb I rx ry d
/-- the very same objects, and flat values -/
def CPair : Cmp := fun x y _ b => EqPair x y b
theorem eqB_pair : EqB X 0 CPair := fun A pins s σ H x y u v b sb I rx ry d => (EqPair.at (A := A) (s := s) d rx ry) X.prog X.w X.xe _ ⟨rfl, I⟩
/-- x != y of lists that are equal item by item -/
def rNeB (D : Cmp) : R2 := fun x y H Q => ∃ p q xs ys, x = .ref p ∧ y = .ref q ∧ H p = some (.lst xs) ∧ H q = some (.lst ys) ∧ xs.length = ys.length ∧ (∀ (i : Nat) x y, xs[i]? = some x → ys[i]? = some y → D x y H true) ∧ Q (.bl false) H
theorem op_neB (h : EqB X n D) (hr : Room (n + 1) X.A) : OpR X (compareOp .NotEq) (rNeB D) := by
  intro pins s σ H x y v u Q I rx ry hq
  obtain ⟨p, q, xs, ys, rfl, rfl, hp, hq, hlen, he, k⟩ := hq
  cases rx
  cases ry
  have sb : Sub X (n + 1) X.A := ⟨hr, rfl⟩
  show wpAny (model X.prog X.w) X.A (richCompare .NotEq (.ref p) (.ref q)) (EP X pins σ Q) X.xe s
  refine rc_listN (N := xs.length) hr.units0 (fun _ t => Inv X pins σ H t) (fun i t It => ?_) (fun t It => ⟨.bl false, H, It, rfl, k⟩) I
  obtain ⟨z, its, k1, r1, e1⟩ := It.hok p _ hp
  obtain ⟨z2, its2, k2, r2, e2⟩ := It.hok q _ hq
  refine ⟨its.toArray, its2.toArray, k1, k2, e1, e2, by rw [List.size_toArray, ← r1.length], by rw [List.size_toArray, ← r2.length, ← hlen], fun h1 h2 => ?_⟩
  rw [List.size_toArray] at h1 h2
  have g1 : i < xs.length := by rw [r1.length]; exact h1
  have g2 : i < ys.length := by rw [r2.length]; exact h2
  obtain ⟨u1, a1, b1⟩ := r1.get (List.getElem?_eq_getElem g1)
  obtain ⟨u2, a2, b2⟩ := r2.get (List.getElem?_eq_getElem g2)
  rw [List.getElem?_eq_getElem h1] at a1
  rw [List.getElem?_eq_getElem h2] at a2
  cases a1
  cases a2
  exact h X.A.in1 pins t σ H _ _ _ _ _ sb.in1 It b1 b2 (he i _ _ (List.getElem?_eq_getElem g1) (List.getElem?_eq_getElem g2))
end
end AT

set_option maxHeartbeats 4000000
namespace AT
open PySem PySem.Spec PyProof.Rows L2
/-! ### x in o, x not in o by an own __contains__ -/
def rInO (C : Addr) (sp : Sp) (E : XK) : R2 := fun y x H Q => ∃ p d fs, x = .ref p ∧ H p = some (.ins C d fs) ∧ sp [.ref p, y] H (fun v H' => ∃ b, v = .bl b ∧ Q (.bl b) H') E
def rNotInO (C : Addr) (sp : Sp) (E : XK) : R2 := fun y x H Q => ∃ p d fs, x = .ref p ∧ H p = some (.ins C d fs) ∧ sp [.ref p, y] H (fun v H' => ∃ b, v = .bl b ∧ Q (.bl !b) H') E
section
variable {X : Cx} {C f : Addr} {k : Nat} {ps : List Str} {sp : Sp} {E : XK}
theorem op_inO (M : Meth X.K C "__contains__" f) (F : Ok X.prog X.w X.K X.mg X.base k f ps sp) (hr : Room k X.A) (hx : Passes (L2.CX X.prog X.w) X E) : OpR X (compareOp .In) (rInO C sp E) := by
  intro pins s σ H x y v u Q I rx ry h
  obtain ⟨p, d, fs, rfl, hp, hsp⟩ := h
  obtain ⟨fd, F1, b, kp⟩ := F
  cases ry
  obtain ⟨mA, J, _⟩ := ins_get I.hok hp
  obtain ⟨od, J, _⟩ := J.look
  obtain ⟨m, hF⟩ := I.fr
  refine PySem.W.in_K hF I.ok.mod.kin J M.at_ M.fn (wpAny_mono (run_fn (us := [.ref p, v]) (vs := [.ref p, x]) (ds := []) (dvs := []) F1 hr b .nil hx I (.cons rfl (.cons rx .nil)) hsp) (fun r s' z => ?_) fun _ _ z => z)
  obtain ⟨x', H', I', r', b', rfl, q⟩ := z
  cases r'
  exact wpAny_truthy_bool ⟨.bl b', H', I', rfl, q⟩
theorem op_notInO (M : Meth X.K C "__contains__" f) (F : Ok X.prog X.w X.K X.mg X.base k f ps sp) (hr : Room k X.A) (hx : Passes (L2.CX X.prog X.w) X E) : OpR X (compareOp .NotIn) (rNotInO C sp E) := by
  intro pins s σ H x y v u Q I rx ry h
  obtain ⟨p, d, fs, rfl, hp, hsp⟩ := h
  obtain ⟨fd, F1, b, kp⟩ := F
  cases ry
  obtain ⟨mA, J, _⟩ := ins_get I.hok hp
  obtain ⟨od, J, _⟩ := J.look
  obtain ⟨m, hF⟩ := I.fr
  refine PySem.W.notIn_K hF I.ok.mod.kin J M.at_ M.fn (wpAny_mono (run_fn (us := [.ref p, v]) (vs := [.ref p, x]) (ds := []) (dvs := []) F1 hr b .nil hx I (.cons rfl (.cons rx .nil)) hsp) (fun r s' z => ?_) fun _ _ z => z)
  obtain ⟨x', H', I', r', b', rfl, q⟩ := z
  cases r'
  exact wpAny_truthy_bool ⟨.bl (!b'), H', I', rfl, q⟩
end
end AT

set_option maxHeartbeats 4000000
namespace AT
open PySem PySem.Spec PyProof.Rows L2
/-! ### one of two readings -/
theorem pg_or {X : Cx} {e : Expr} {t u : TG} (h : PG X e t) (g : PG X e u) : PG X e (fun v σ H Q => t v σ H Q ∨ u v σ H Q) := ⟨fun pins s σ H v w Q I r z => z.elim (h.run pins s σ H v w Q I r) (g.run pins s σ H v w Q I r)⟩
theorem pi_or {X : Cx} {tg e : Expr} {t u : TI} (h : PI X tg e t) (g : PI X tg e u) : PI X tg e (fun σ H R => t σ H R ∨ u σ H R) := ⟨fun pins s σ H R I z => z.elim (h.run pins s σ H R I) (g.run pins s σ H R I)⟩
theorem pe_or2 {X : Cx} {e : Expr} {t u : TE} (h : PE X e t) (g : PE X e u) : PE X e (fun σ H Q => t σ H Q ∨ u σ H Q) := ⟨fun pins s σ H Q I z => z.elim (h.run pins s σ H Q I) (g.run pins s σ H Q I)⟩
/-- a list or a tuple walked -/
def iSq (K : PySem.W.Frag) (te : TE) : TI := fun σ H R => te σ H fun v H1 => ∃ a xs, v = .ref a ∧ (SqL K H1 a xs ∨ SqT K H1 a xs) ∧ ∀ (J : It) (G : Hp → Prop), Walk J xs.length G (YAt xs) → (∀ H' : Hp, H' a = H1 a → G H') → R J H1
theorem pi_sq {X : Cx} {tg l : Expr} {tl : TE} (hl : PE X l tl) : PI X tg l (iSq X.K tl) := by
  refine ⟨fun pins s σ H R I h => ?_⟩
  refine thn (hl.run pins s σ H _ I h) fun v s1 ⟨x, H1, I1, r1, q1⟩ => ?_
  obtain ⟨a, xs, e, hq | hq, q⟩ := q1
  · subst e
    cases r1
    obtain ⟨its, rv, p, hz⟩ := I1.list hq
    refine wpAny_pyIter_list p.isList ?_
    refine ⟨s1.heap.objs.size, [s1.heap.objs.size], _, _, H1, rfl, I1.kept (t' := s1.toks) fun b o e => Heap.get?_push_of_some _ e, turn_list a _, ⟨_, Heap.get?_push_size _ rfl, rfl, rfl⟩, fun b hb => ?_, q _ _ (walk_list (xs := xs)) fun H' e => ?_⟩
    · have e : b = s1.heap.objs.size := by simpa using hb
      subst e
      exact I1.fpOk (Nat.le_refl _) (I1.hok.fresh (Nat.le_refl _))
    · rcases hq with (h | ⟨o, h⟩) | h
      · exact .inl (.inl (e.trans h))
      · exact .inl (.inr ⟨o, e.trans h⟩)
      · exact .inr h
  · subst e
    cases r1
    obtain ⟨its, rv, p, hz⟩ := I1.tuple hq
    refine wpAny_pyIter_tuple (show s1.heap.IsTuple a its.toArray from p) ?_
    refine ⟨s1.heap.objs.size, [s1.heap.objs.size], _, _, H1, rfl, I1.kept (t' := s1.toks) fun b o e => Heap.get?_push_of_some _ e, turn_tuple a _, ⟨_, Heap.get?_push_size _ rfl, rfl, rfl⟩, fun b hb => ?_, q _ _ (walk_tup (xs := xs)) fun H' e => ?_⟩
    · have e : b = s1.heap.objs.size := by simpa using hb
      subst e
      exact I1.fpOk (Nat.le_refl _) (I1.hok.fresh (Nat.le_refl _))
    · rcases hq with (h | ⟨o, h⟩) | h
      · exact .inl (.inl (e.trans h))
      · exact .inl (.inr ⟨o, e.trans h⟩)
      · exact .inr h
/-- reversed(a tuple) -/
theorem walk_revT {K : PySem.W.Frag} {a : Addr} {xs : List V} : Walk (RT.ItvT K a xs.length) xs.length (fun H => SqT K H a xs) (fun i H x H' => H' = H ∧ xs[xs.length - 1 - i]? = some x) :=
  ⟨fun i _ hi q => ⟨hi, xs, xs[xs.length - 1 - i]'(by omega), q, by simp [show xs.length - 1 - i < xs.length by omega]⟩, fun _ _ => Nat.le_refl _, fun _ _ _ _ _ q y => ⟨y.1, y.2 xs q⟩⟩
/-! ### len(set(xs)), ints, some of them more than once -/
def metOf (ns : List Int) : List Int := PyProof.Rows.firstMet (fun i => ns.getD i 0) ns.length
theorem met_append (l r : List Int) : metOf (l ++ r) = r.foldl (fun acc x => if acc.any (· == x) then acc else acc ++ [x]) (metOf l) := by
  have gen : ∀ (n : Nat) (f g : Nat → Int), (∀ i, i < n → f i = g i) → PyProof.Rows.firstMet f n = PyProof.Rows.firstMet g n := by
    intro n
    induction n with
    | zero => intro f g _; rfl
    | succ n ih =>
      intro f g h
      rw [PyProof.Rows.firstMet_succ, PyProof.Rows.firstMet_succ, ih f g fun i hi => h i (by omega), h n (by omega)]
  have one : ∀ (l : List Int) (x : Int), metOf (l ++ [x]) = if (metOf l).any (· == x) then metOf l else metOf l ++ [x] := by
    intro l x
    unfold metOf
    rw [List.length_append, List.length_singleton, PyProof.Rows.firstMet_succ, gen l.length (fun i => (l ++ [x]).getD i 0) (fun i => l.getD i 0) (fun i hi => by simp [List.getD_eq_getElem?_getD, List.getElem?_append_left hi])]
    have e : (l ++ [x]).getD l.length 0 = x := by simp [List.getD_eq_getElem?_getD]
    rw [e]
    rfl
  induction r generalizing l with
  | nil => rw [List.append_nil]; rfl
  | cons x r ih =>
    have : l ++ x :: r = (l ++ [x]) ++ r := by simp
    rw [this, ih, one]
    rfl
theorem met_nodup {l : List Int} (h : l.Nodup) : metOf l = l := by
  unfold metOf
  rw [RZ.firstMet_nodup h l.length (Nat.le_refl _), List.take_length]
/-- behind a list of unlike ones a second one, of which just x stands in the first -/
theorem met_two {l r : List Int} {x : Int} (hl : l.Nodup) (hr : r.Nodup) (h1 : x ∈ l) (h2 : x ∈ r) (h3 : ∀ y, y ∈ l → y ∈ r → y = x) : (metOf (l ++ r)).length + 1 = (l ++ r).length := by
  rw [met_append, met_nodup hl]
  have key : ∀ (r acc : List Int), r.Nodup → (r.foldl (fun acc x => if acc.any (· == x) then acc else acc ++ [x]) acc).length = acc.length + (r.filter fun y => !acc.any (· == y)).length := by
    intro r
    induction r with
    | nil => intro acc _; rfl
    | cons y r ih =>
      intro acc hn
      obtain ⟨hy, hn⟩ := List.nodup_cons.mp hn
      rw [List.foldl_cons]
      cases c : acc.any (· == y) with
      | true =>
        rw [if_pos rfl, ih acc hn, List.filter_cons_of_neg (by rw [c]; simp)]
      | false =>
        rw [if_neg (by simp), ih _ hn, List.filter_cons_of_pos (by rw [c]; rfl), List.length_append, List.length_singleton, List.length_cons]
        have e : (r.filter fun z => !(acc ++ [y]).any (· == z)) = r.filter fun z => !acc.any (· == z) := by
          refine List.filter_congr fun z hz => ?_
          rw [List.any_append]
          have : ([y].any (· == z)) = false := by
            simp only [List.any_cons, List.any_nil, Bool.or_false, beq_eq_false_iff_ne]
            rintro rfl
            exact hy hz
          rw [this, Bool.or_false]
        rw [e]
        omega
  rw [key r l hr, List.length_append]
  have fl : ∀ r : List Int, r.Nodup → x ∈ r → (∀ y, y ∈ l → y ∈ r → y = x) → (r.filter fun y => !l.any (· == y)).length + 1 = r.length := by
    intro r
    induction r with
    | nil => intro _ h _; cases h
    | cons y r ih =>
      intro hn hx h3
      obtain ⟨hy, hn⟩ := List.nodup_cons.mp hn
      rcases List.mem_cons.mp hx with rfl | hx
      · have e : (List.filter (fun y => !l.any (· == y)) (x :: r)) = r := by
          rw [List.filter_cons_of_neg (by rw [List.any_eq_true.mpr ⟨x, h1, by simp⟩]; simp)]
          refine List.filter_eq_self.mpr fun z hz => ?_
          rw [Bool.not_eq_true', List.any_eq_false]
          intro q hq
          simp only [beq_iff_eq]
          rintro rfl
          exact hy (h3 q hq (List.mem_cons_of_mem _ hz) ▸ hz)
        rw [e]
        rfl
      · have nl : y ∉ l := fun hyl => hy (h3 y hyl (by simp) ▸ hx)
        have e : (l.any (· == y)) = false := by
          rw [List.any_eq_false]
          intro q hq
          simp only [beq_iff_eq]
          rintro rfl
          exact nl hq
        rw [List.filter_cons_of_pos (by rw [e]; rfl), List.length_cons, List.length_cons, ih hn hx fun z hz hz2 => h3 z hz (List.mem_cons_of_mem _ hz2)]
  have := fl r hr h2 h3
  omega
def tLenSetM (K : PySem.W.Frag) (ta : TE) : TE := fun σ H Q => ta σ H fun x H1 => ∃ (l : Addr) (ns : List Int), x = .ref l ∧ SqL K H1 l (ns.map V.int) ∧ ns.length ≤ 4000 ∧ Q (.int ((metOf ns).length : Nat)) H1
theorem met_le (ns : List Int) : (metOf ns).length ≤ ns.length := by
  exact PyProof.Rows.firstMet_length_le _ _
theorem pe_lenSetM {X : Cx} {a : Expr} {ta : TE} {p p2 q pos : Pos} (hg : Gl X "len") (hm : X.mg "len" = none) (hg2 : Gl X "set") (hm2 : X.mg "set" = none) (ha : PE X a ta) (hc : X.calm = true := by rfl)
    (na : starEach [a] X.env = (false, eval a X.env) :: starEach [] X.env := by rfl) : PE X (.Call (.Name "len" p) [.Call (.Name "set" p2) [a] [] q] [] pos) (tLenSetM X.K ta) := by
  refine ⟨fun pins s σ H Q I h => ?_⟩
  refine Call_ (ld_blt I hg hm boot_len ?_)
  refine PyProof.Rows.callWith_builtin1 (PyProof.Rows.args_cons ?_ rfl) rfl rfl
  refine Call_ (ld_blt I hg2 hm2 boot_set ?_)
  refine PyProof.Rows.callWith_type1 (PyProof.Rows.args_cons (thn (ha.run pins s σ H _ I h) fun v s1 ⟨x, H1, I1, r1, q1⟩ => PyProof.Rows.args_nil ?_) na) na rfl
  obtain ⟨l, ns, rfl, hq, hl, q1⟩ := q1
  cases r1
  obtain ⟨its, r, pl, hz⟩ := I1.list hq
  have hlen : its.toArray.size = ns.length := by rw [List.size_toArray, ← r.length, List.length_map]
  refine call_set_list (I1.ok.hd hc) pl.isList (by simpa using RZ.intsAre_vals r) (by rw [hlen]; unfold scanBound; omega) fun h' tk hS hk => ?_
  refine PyProof.Rows.args_nil ?_
  rw [hlen] at hS
  have hm := met_le ns
  obtain ⟨o, es, ep, t, ho, hex, hd, _, _, _, hf, hn⟩ := hS
  have I2 : Inv X pins σ H1 { s1 with heap := h', toks := tk } := I1.kept fun b o e => hk b o (Heap.lt_size e) e
  exact call_len_set ho hex hd hf (by rw [hn]; unfold metOf at hm; omega) ⟨.int (metOf ns).length, H1, I2.tok _, ⟨_, by rw [hn]; rfl⟩, q1⟩
/-! ### list(reversed(a list)) -/
section
variable {prog : Program} {w : World} {A : Around} {E : Value → Shared → Prop} {s : Shared}
theorem extend_rev {R : Result → Shared → Prop} {it l : Addr} {items : Array Value} (hh : A.handled = none) (hit : s.heap.IsRevIter it l ((items.size : Int) - 1)) (hl : s.heap.IsList l items) (hne : l ≠ it) (hn : items.size ≤ sizeLine) (S : Addr) (res : Value) (c₀ : Nat)
    (hSi : S ≠ it) (hSl : S ≠ l) (hS : s.heap.get? S = some { cls := .type "list", data := .seq #[] c₀ })
    (hR : ∀ h' tk acc' c', (∀ b o, b ≠ S → b ≠ it → s.heap.get? b = some o → h'.get? b = some o) → h'.get? S = some { cls := .type "list", dict := none, data := .seq acc' c', slots := #[] } →
      ItemsOf (fun i v => items[items.size - 1 - i]? = some v) acc' items.size → R (.ok (.ret res)) { s with heap := h', toks := tk }) :
    wpAny (model prog w) A.in1 (Builtin.List.listExtendWith (.ref S) (.ref it) res)
      (fun fin s' => match fin with | .done f => R (.ok f) s' | .again c' => c'.quiet = true ∧ codeAny (model prog w) A c' R s') (fun e s' => R (.error e) s') s := by
  have W := (Walks.listRev (prog := prog) (w := w) (A := A.in1) hh it l hne items).toS
  have hSf : S ∉ [it, l] := by simp only [List.mem_cons, List.not_mem_nil, or_false, not_or]; exact ⟨hSi, hSl⟩
  have hT : s.TypeIs (.ref it) "list_reverseiterator" := hit.typeIs
  have h1 : Builtin.List.listSameRef (.ref S) (.ref it) = false := by simp [Builtin.List.listSameRef, hSi]
  unfold Builtin.List.listExtendWith
  refine wpAny_bind (wpAny_typeOf hT ?_)
  rw [if_neg (by rw [h1]; decide)]
  refine wpAny_bind (wpAny_pyIter_revIter hit ?_)
  refine wpAny_bind (wpAny_holding ?_)
  unfold Builtin.List.listLengthHint
  refine wpAny_bind (wpAny_specialOf hT RT.nolen_lri ?_)
  show wpAny _ A.in1 (specialOf (Value.ref it) (Str.ofString "__length_hint__") >>= _) _ _ _
  refine wpAny_bind (wpAny_specialOf hT RT.hint_lri ?_)
  generalize hid : ("list_reverseiterator.__length_hint__" : String) = id0
  wp_delta
  rw [show splitId id0 = some ("list_reverseiterator", "__length_hint__") from by subst hid; decide +kernel]
  subst hid
  refine wpAny_bind (wpAny_isInstance (b := true) hT (by rw [isSubtype_type]; kernel_rfl) ?_)
  refine wpAny_pure ?_
  rw [if_neg (by decide)]
  have e0 : ((items.size : Nat) : Int) - 1 - ((0 : Nat) : Int) = (items.size : Int) - 1 := by omega
  refine wpAny_pure ⟨plainId_quiet F.plain_extend_loop _, codeAny_extend_loopS W hn _ hSf _ items.size 0 _ _ _ rfl (Nat.zero_le _) ⟨Nat.zero_le _, by rw [e0]; exact hit, hl⟩ hS (ItemsOf.nil _) fun s' acc' c' hm hS' hacc => ?_⟩
  rw [Moved.eq_with hm]
  refine hR s'.heap s'.toks acc' c' (fun b o hb hb2 e => hm.heap b o (fun hmem => ?_) e) hS' hacc
  rcases List.mem_cons.mp hmem with e' | hmem
  · exact hb e'
  · exact hb2 (List.mem_singleton.mp hmem)
theorem list_init_rev {R : Result → Shared → Prop} {it l : Addr} {items : Array Value} (hh : A.handled = none) (hit : s.heap.IsRevIter it l ((items.size : Int) - 1)) (hl : s.heap.IsList l items) (hne : l ≠ it) (hn : items.size ≤ sizeLine) (S : Addr)
    (hSi : S ≠ it) (hSl : S ≠ l) (hS : s.heap.get? S = some { cls := .type "list", data := .seq #[] })
    (hR : ∀ h' tk acc' c', (∀ b o, b ≠ S → b ≠ it → s.heap.get? b = some o → h'.get? b = some o) → h'.get? S = some { cls := .type "list", dict := none, data := .seq acc' c', slots := #[] } →
      ItemsOf (fun i v => items[items.size - 1 - i]? = some v) acc' items.size → R (.ok (.ret .none)) { s with heap := h', toks := tk }) :
    wpAny (model prog w) A.in1 (Builtin.«list.__init__» ⟨[.ref S, .ref it], []⟩)
      (fun fin s' => match fin with | .done f => R (.ok f) s' | .again c' => c'.quiet = true ∧ codeAny (model prog w) A c' R s') (fun e s' => R (.error e) s') s := by
  show wpAny _ _ (do let old ← Builtin.List.listItems (.ref S); Builtin.List.listUpdate (.ref S) (fun _ => #[]); letGo old.toList.reverse; Builtin.List.listExtendWith (.ref S) (.ref it) .none) _ _ s
  refine wpAny_bind ?_
  unfold Builtin.List.listItems
  refine wpAny_bind (wpAny_seqItems hS rfl (wpAny_pure ?_))
  show wpAny _ _ (updateSeq S (fun _ => #[]) >>= fun _ => letGo (#[] : Array Value).toList.reverse >>= fun _ => Builtin.List.listExtendWith (.ref S) (.ref it) .none) _ _ s
  refine wpAny_bind (wpAny_updateSeq hS rfl ?_)
  have hS₂ := Heap.get?_update_self (Obj.mapSeq (fun _ => (#[] : Array Value))) hS rfl
  have oth : ∀ b o, b ≠ S → s.heap.get? b = some o → (s.heap.update S (Obj.mapSeq (fun _ => (#[] : Array Value)))).get? b = some o :=
    fun b o hb e => (Heap.get?_update_other _ _ (Ne.symm hb)).trans e
  refine wpAny_bind (wpAny_letGo ?_)
  refine extend_rev hh (hit.at fun o e => oth _ _ (Ne.symm hSi) e) (hl.at fun o e => oth _ _ (Ne.symm hSl) e) hne hn S .none _ hSi hSl hS₂ fun h' tk acc' c' hk hS' hacc => ?_
  exact hR h' tk acc' c' (fun b o hb hb2 e => hk b o hb hb2 (oth b o hb e)) hS' hacc
theorem call_list_rev {Q : Value → Shared → Prop} {it l : Addr} {items : Array Value} (hh : A.handled = none) (hit : s.heap.IsRevIter it l ((items.size : Int) - 1)) (hl : s.heap.IsList l items) (hne : l ≠ it) (hn : items.size ≤ sizeLine)
    (hQ : ∀ h' tk acc' c', (∀ b o, b ≠ it → s.heap.get? b = some o → h'.get? b = some o) →
      h'.get? s.heap.objs.size = some { cls := .type "list", dict := none, data := .seq acc' c', slots := #[] } → ItemsOf (fun i v => items[items.size - 1 - i]? = some v) acc' items.size → Q (.ref s.heap.objs.size) { s with heap := h', toks := tk }) :
    wpAny (model prog w) A (call (.type "list") [.ref it]) Q E s := by
  obtain ⟨oi, hoi, _⟩ := id hit
  obtain ⟨ol, hol, _⟩ := id hl
  have hSi : s.heap.objs.size ≠ it := Nat.ne_of_gt (Heap.lt_size hoi)
  have hSl : s.heap.objs.size ≠ l := Nat.ne_of_gt (Heap.lt_size hol)
  refine callType_codes (Q₁ := fun obj s₁ => obj = .ref s.heap.objs.size ∧ s₁ = { s with heap := s.heap.push { cls := .type "list", data := .seq #[] } }) F.called_list (F.typeCall_list_1 _) F.entry_list_init
    (code_list_new _ ⟨rfl, rfl⟩) fun obj s₁ h₁ => ?_
  obtain ⟨rfl, rfl⟩ := h₁
  have hS : (s.heap.push { cls := .type "list", data := .seq #[] }).get? s.heap.objs.size = some { cls := .type "list", data := .seq #[] } := Heap.get?_push_size _ rfl
  refine ⟨⟨_, hS, rfl⟩, F.args_list_init_2 _ _, list_init_rev (A := A.in1) hh (hit.at fun o e => Heap.get?_push_of_some _ e) (hl.push _) hne hn _ hSi hSl hS fun h' tk acc' c' hk hS' hacc => ?_⟩
  exact ⟨rfl, hQ h' tk acc' c' (fun b o hb e => hk b o (Nat.ne_of_lt (Heap.lt_size e)) hb (Heap.get?_push_of_some _ e)) hS' hacc⟩
end
def tListRev (K : PySem.W.Frag) (te : TE) : TE := fun σ H Q => te σ H fun v H1 => ∃ (a : Addr) (xs : List V), v = .ref a ∧ SqL K H1 a xs ∧ ∀ q, H1 q = none → Q (.ref q) (upd H1 q (.lst xs.reverse))
theorem pe_listRev {X : Cx} {e : Expr} {te : TE} {p p2 pos pos2 : Pos} (hg : Gl X "list") (hm : X.mg "list" = none) (hg2 : Gl X "reversed") (hm2 : X.mg "reversed" = none) (he : PE X e te) (hc : X.calm = true := by rfl)
    (hs : starEach [e] X.env = (false, eval e X.env) :: starEach [] X.env := by rfl)
    (hs2 : starEach [.Call (.Name "reversed" p2) [e] [] pos2] X.env = (false, eval (.Call (.Name "reversed" p2) [e] [] pos2) X.env) :: starEach [] X.env := by rfl) :
    PE X (.Call (.Name "list" p) [.Call (.Name "reversed" p2) [e] [] pos2] [] pos) (tListRev X.K te) := by
  refine ⟨fun pins s σ H Q I h => ?_⟩
  refine Call_ (ld_blt I hg hm boot_list (PyProof.Rows.callWith_type1 (args_cons (Call_ (ld_blt I hg2 hm2 PyProof.Rows.boot_reversed (PyProof.Rows.callWith_type1 (args_cons (thn (he.run pins s σ H _ I h) fun u s1 ⟨v, H1, I1, r1, q1⟩ => args_nil ?_) hs) hs rfl))) hs2) hs2 rfl))
  obtain ⟨a, xs, ev, hq, q⟩ := q1
  subst ev
  obtain rfl : u = Value.ref a := r1
  obtain ⟨its, rv, p', hz⟩ := I1.list hq
  refine call_reversed_list p'.isList (args_nil ?_)
  have k0 : ∀ b o, s1.heap.get? b = some o → (s1.heap.push (revObj a ((its.toArray.size : Int) - 1))).get? b = some o := fun b o e => Heap.get?_push_of_some _ e
  have I2 : Inv X pins σ H1 { s1 with heap := s1.heap.push (revObj a ((its.toArray.size : Int) - 1)) } := I1.kept (t' := s1.toks) k0
  have hl := p'.isList
  obtain ⟨ol, hol, _⟩ := id hl
  have hne : a ≠ s1.heap.objs.size := Nat.ne_of_lt (Heap.lt_size hol)
  have hn : its.toArray.size ≤ sizeLine := by rw [List.size_toArray, ← rv.length]; exact hz
  refine call_list_rev (s := { s1 with heap := s1.heap.push (revObj a ((its.toArray.size : Int) - 1)) }) (I1.ok.hd hc) ⟨_, Heap.get?_push_size _ rfl, rfl, rfl⟩ (hl.push _) hne hn fun h' tk acc c' hk hS' hi => ?_
  have sz : (s1.heap.push (revObj a ((its.toArray.size : Int) - 1))).objs.size = s1.heap.objs.size + 1 := Heap.size_push ..
  have fp := I1.fpOk (H' := H1) (b := s1.heap.objs.size) (Nat.le_refl _) (I1.hok.fresh (Nat.le_refl _))
  have rr := RT.vals_rev rv hi
  have hS2 : h'.get? (s1.heap.objs.size + 1) = some { cls := .type "list", dict := none, data := .seq acc c', slots := #[] } := by
    have z : h'.get? (s1.heap.push (revObj a ((its.toArray.size : Int) - 1))).objs.size = _ := hS'
    rw [sz] at z
    exact z
  have I3 : Inv X pins σ (upd H1 (s1.heap.objs.size + 1) (.lst xs.reverse)) { s1 with heap := h', toks := tk } := by
    refine I1.turnedNew (ch := [s1.heap.objs.size]) (fun b o hb e => hk b o (by simpa using hb) (Heap.get?_push_of_some _ e)) (fun b hb => ?_) (Nat.le_succ _) ?_
    · have e : b = s1.heap.objs.size := by simpa using hb
      subst e
      exact fp
    · exact ⟨by rw [List.length_reverse]; exact hz, acc.toList, c', rr, by rw [Array.toArray_toList]; exact hS2⟩
  refine ⟨.ref (s1.heap.objs.size + 1), _, I3, ?_, q _ (I1.hok.fresh (Nat.le_succ _))⟩
  show Value.ref _ = _
  rw [← sz]
end AT

set_option maxHeartbeats 4000000
namespace AT
open PySem PySem.Spec PyProof.Rows L2
/-! ### how long a shown list is -/
theorem slen (a b : Str) : (a ++ b).length = a.length + b.length := by
  show (a.cps ++ b.cps).size = _
  rw [Array.size_append]
  rfl
theorem textFrom_le {m : Nat} : ∀ (ts : List Str) (k : Nat) (acc : Str), (∀ t ∈ ts, t.length ≤ m) → (textFrom k acc ts).length ≤ acc.length + ts.length * (m + 2)
  | [], k, acc, _ => by show acc.length ≤ _; omega
  | t :: r, k, acc, h => by
    have ih := textFrom_le r (k + 1) (acc ++ (if k > 0 then ", " else "" : String) ++ t) fun x hx => h x (List.mem_cons_of_mem _ hx)
    have h1 := h t (by simp)
    rw [slen, slen] at ih
    have h2 : (Str.ofString (if k > 0 then ", " else "" : String)).length ≤ 2 := by split <;> decide
    rw [List.length_cons, Nat.succ_mul]
    show (textFrom (k + 1) (acc ++ (if k > 0 then ", " else "" : String) ++ t) r).length ≤ _
    omega
theorem listText_le {m : Nat} {ts : List Str} (h : ∀ t ∈ ts, t.length ≤ m) : (listText ts).length ≤ 2 + ts.length * (m + 2) := by
  unfold listText
  have := textFrom_le ts 0 "[" h
  rw [slen]
  have e1 : (Str.ofString "[").length = 1 := by decide
  have e2 : (Str.ofString "]").length = 1 := by decide
  omega
theorem shownAll_map {α : Type} (f : α → PyData) : ∀ l : List α, PyData.shownAll (l.map f) = l.map fun x => (f x).shown
  | [] => by simp [PyData.shownAll]
  | x :: l => by simp only [List.map_cons, PyData.shownAll]; rw [shownAll_map f l]
theorem showableAll_map {α : Type} {f : α → PyData} (l : List α) (h : ∀ x ∈ l, (f x).showable = true) : PyData.showableAll (l.map f) = true := by
  induction l with
  | nil => simp [PyData.showableAll]
  | cons x l ih =>
    simp only [List.map_cons, PyData.showableAll, Bool.and_eq_true]
    exact ⟨h x (by simp), ih fun y hy => h y (List.mem_cons_of_mem _ hy)⟩
/-- data that can be shown -/
structure Shw (d : PyData) (n L : Nat) : Prop where
  sh : d.showable = true
  dp : d.depth ≤ n
  ln : d.shown.length ≤ L
theorem Shw.mono {d : PyData} {n m L M : Nat} (h : Shw d n L) (h1 : n ≤ m) (h2 : L ≤ M) : Shw d m M := ⟨h.sh, Nat.le_trans h.dp h1, Nat.le_trans h.ln h2⟩
theorem Shw.int {i : Int} (h : i.natAbs < 1000) : Shw (.int i) 0 4 := by
  have hs : (PyData.int i).showable = decide (i.natAbs.log2 < 1920) := by simp only [PyData.showable]
  refine ⟨?_, by simp [PyData.depth], ?_⟩
  · rw [hs, decide_eq_true_eq]
    exact Nat.lt_of_le_of_lt (Nat.log2_le_self _) (by omega)
  · have e : (PyData.int i).shown = Str.ofString (toString i) := by simp only [PyData.shown]
    rw [e]
    have h2 := int_text_length_le10 (k := 3) (by decide) (show i.natAbs < 10 ^ 3 by omega)
    rw [PySem.ofString_length]
    omega
theorem Shw.list {ds : List PyData} {n L : Nat} (h : ∀ d ∈ ds, Shw d n L) : Shw (.list ds) (n + 1) (2 + ds.length * (L + 2)) := by
  refine ⟨?_, ?_, ?_⟩
  · have e : (PyData.list ds).showable = PyData.showableAll ds := by simp only [PyData.showable]
    rw [e]
    have := showableAll_map (f := id) ds fun x hx => (h x hx).sh
    rwa [List.map_id] at this
  · have e : (PyData.list ds).depth = PyData.depthAll ds + 1 := by simp only [PyData.depth]
    rw [e]
    have : ∀ l : List PyData, (∀ d ∈ l, Shw d n L) → PyData.depthAll l ≤ n := by
      intro l
      induction l with
      | nil => intro _; simp [PyData.depthAll]
      | cons x l ih =>
        intro hx
        have h1 := (hx x (by simp)).dp
        have h2 := ih fun y hy => hx y (List.mem_cons_of_mem _ hy)
        simp only [PyData.depthAll]
        omega
    have := this ds h
    omega
  · have e : (PyData.list ds).shown = listText (PyData.shownAll ds) := by simp only [PyData.shown]
    rw [e]
    have e2 := shownAll_map id ds
    rw [List.map_id] at e2
    rw [e2]
    have z := listText_le (m := L) (ts := ds.map fun x => (id x).shown) (by
      intro t ht
      obtain ⟨d, hd, rfl⟩ := List.mem_map.mp ht
      exact (h d hd).ln)
    rw [List.length_map] at z
    exact z
theorem Shw.ok {d : PyData} {n L : Nat} (h : Shw d n L) (hn : n ≤ 50) (hL : L ≤ 16777216) : d.showable = true ∧ d.depth ≤ 50 ∧ d.shown.length ≤ sizeLine :=
  ⟨h.sh, Nat.le_trans h.dp hn, by rw [sizeLine_eq]; exact Nat.le_trans h.ln hL⟩
/-! ### data stay -/
mutual
theorem Dd.up {K : PySem.W.Frag} {H H' : Hp} (s : Same H H') : ∀ {v : V} {d : PyData}, Dd K H v d → Dd K H' v d
  | _, _, .non => .non
  | _, _, .bl b => .bl b
  | _, _, .int i => .int i
  | _, _, .str x => .str x
  | _, _, .lst h ha => .lst (Same.sql s h) (DdAll.up s ha)
  | _, _, .tup h ha => .tup (Same.tup s h) (DdAll.up s ha)
  | _, _, .emp h => .emp (s _ _ h)
theorem DdAll.up {K : PySem.W.Frag} {H H' : Hp} (s : Same H H') : ∀ {vs : List V} {ds : List PyData}, DdAll K H vs ds → DdAll K H' vs ds
  | _, _, .nil => .nil
  | _, _, .cons h t => .cons (Dd.up s h) (DdAll.up s t)
end
end AT

set_option maxHeartbeats 4000000
/-! exceptions of the program over KeyError and LookupError -/
namespace AT
open PySem PySem.Spec PyProof.Rows L2 PySem.HandSPX Builtin Builtin.ObjectAttr
/-- what is asked of the classes behind the own ones -/
structure Tl (B BI : String) (bm : List Value) : Prop where
  cB : bm.contains (.type B) = true
  cI : bm.contains (.type BI) = true
  cA : bm.contains (.type "AttributeError") = false
  cN : bm.contains (.type "NameError") = false
  cO : bm.contains (.type "object") = true
  pass : ∀ self, refuseLoop self "__setattr__" bm = pure ()
theorem Tl.cons {B BI : String} {bm : List Value} (h : Tl B BI bm) (C : Addr) : Tl B BI (.ref C :: bm) :=
  ⟨by rw [List.contains_cons, h.cB, Bool.or_true], by rw [List.contains_cons, h.cI, Bool.or_true], by rw [List.contains_cons, h.cA]; rfl, by rw [List.contains_cons, h.cN]; rfl, by rw [List.contains_cons, h.cO, Bool.or_true], fun self => by rw [refuseLoop_ref]; exact h.pass self⟩
/-- an __init__ of a built-in exception -/
structure IniF (BI iid : String) : Prop where
  slot : Slot BI "__init__" iid
  entry : entryFor table iid = some Builtin.«BaseException.__init__»
  split : splitId iid = some (BI, "__init__")
  kind : builtinKind iid = some .slot
  row : Manifest.signature? iid = some ⟨.positional, "*", BI, .self, [⟨"args", .varPos, false⟩]⟩
  noStar : (BI != "*") = true
theorem iniK : IniF "KeyError" "KeyError.__init__" where
  slot := .of (owner := "KeyError") (n := "__init__") (by rw [typeLookup_type, builtinLookup_eq_fast]; kernel_rfl) (by decide +kernel) (by decide +kernel) (by decide +kernel)
    (by first | exact .inl (by decide +kernel) | exact .inr (by decide +kernel)) (by rw [isSubtype_type]; kernel_rfl)
  entry := entryFor_alias (id' := "BaseException.__init__") (by rw [fastTable_eq_tree]; kernel_rfl) (by first | rfl | decide +kernel) (by decide +kernel) (by rw [fastTable_eq_tree]; kernel_rfl)
  split := by kernel_rfl
  kind := by kernel_rfl
  row := by kernel_rfl
  noStar := by decide +kernel
theorem iniL : IniF "LookupError" "LookupError.__init__" := ⟨F.excBase_LookupError.init, F.excBase_LookupError.initEntry, F.excBase_LookupError.initSplit, F.excBase_LookupError.initKind, F.excBase_LookupError.initRow, F.excBase_LookupError.noStar⟩
section
variable {M : Model} {A : Around} {E : Value → Shared → Prop} {h : Heap} {g : Array GenState} {d : Drawn} {t : Nat} {os : OsState}
variable {nm q : Str} {C N : Addr} {bs bm bmB : List Value} {hdct : Bool} {sn : List Str} {sub : List Value} {ab : Bool} {col : Option Bool} {dd : Option Addr} {k0 k1 k2 k3 k5 : Option Value} {B BI nid iid iidB : String}
theorem ck_new (F : ExcBaseFacts B nid iidB bmB) (tl : Tl B BI bm) {us : List Value} {Q : Unit → Shared → Prop} (cl : h.get? C = some (excClassObj nm q C N bs bm hdct sn sub ab col dd k0 k1 k2 k3 k5 nid)) (z : Q () ⟨h, g, d, t, os⟩) :
    wpAny M A (checkBuiltinCall nid ⟨.ref C :: us, []⟩) Q E ⟨h, g, d, t, os⟩ := by
  have c1 := (tl.cons C).cB
  have c2 := F.noStar
  simp only [checkBuiltinCall, F.newKind, F.newSplit, F.newRow]
  repeat (first | refine wpAny_loadPart_at cl ?_ | (refine wpAny_isSubtype_exc cl ?_; rw [c1]) | refine wpAny_staticBase_exc cl ?_ | refine wpAny_madeBy_exc cl ?_ | simp only [bne_self_eq_false, Bool.false_eq_true, if_false] | wp_step)
  exact z
theorem ck_ini (G : IniF BI iid) (tl : Tl B BI bm) {e : Addr} {oe : Obj} {us : List Value} {Q : Unit → Shared → Prop} (cl : h.get? C = some (excClassObj nm q C N bs bm hdct sn sub ab col dd k0 k1 k2 k3 k5 nid)) (he : h.get? e = some oe) (hcls : oe.cls = .ref C)
    (z : Q () ⟨h, g, d, t, os⟩) : wpAny M A (checkBuiltinCall iid ⟨.ref e :: us, []⟩) Q E ⟨h, g, d, t, os⟩ := by
  have c1 := (tl.cons C).cI
  have c2 := G.noStar
  simp only [checkBuiltinCall, G.kind, G.split, G.row]
  repeat (first | (with_reducible refine wpAny_loadPart_at he ?_; rw [hcls]) | with_reducible refine wpAny_loadPart_at cl ?_ | (with_reducible refine wpAny_isSubtype_exc cl ?_; rw [c1]) | wp_step)
  refine wpAny_onRaise ?_
  rw [show ∀ (a b : String) (n : Nat), Bind.check ⟨.positional, "*", BI, .self, [⟨"args", .varPos, false⟩]⟩ a b n (List.map (fun x => x.fst) ({ pos := Value.ref e :: us } : Args).kw) = pure () from fun a b n => check_star_args _ _ _ _ _ _]
  exact wpAny_pure z
end
section
variable {prog : Program} {w : World} {A : Around} {E : Value → Shared → Prop} {R : Result → Shared → Prop} {h : Heap} {g : Array GenState} {d : Drawn} {t : Nat} {os : OsState}
variable {nm q : Str} {C N : Addr} {bs bm bmB : List Value} {hdct : Bool} {sn : List Str} {sub : List Value} {ab : Bool} {col : Option Bool} {dd : Option Addr} {k0 k1 k2 k3 k5 : Option Value} {B BI nid iid iidB : String}
theorem nw_own (F : ExcBaseFacts B nid iidB bmB) (tl : Tl B BI bm) {us : List Value} (cl : h.get? C = some (excClassObj nm q C N bs bm hdct sn sub ab col dd k0 k1 k2 k3 k5 nid))
    (z : R (.ok (.ret (.ref (h.objs.size + 1)))) ⟨(h.push { cls := .type "tuple", data := .seq us.toArray }).push { cls := .ref C, data := .fields #[.ref h.objs.size, .none, .none, .none, .bool false, .none] }, g, d, t, os⟩) (hl : us.length ≤ sizeLine) :
    codeAny (model prog w) A (.builtin nid ⟨.ref C :: us, []⟩) R ⟨h, g, d, t, os⟩ := by
  have ee := F.ends
  have c1 := (tl.cons C).cB
  have c2 := (tl.cons C).cA
  have c3 := (tl.cons C).cN
  refine codeAny_builtinAt F.entry ?_
  unfold Builtin.«BaseException.__new__»
  refine PySem.wpAt_bind ?_
  show PySem.wpAt _ _ _ (stack >>= _) _ _ _
  refine PySem.wpAt_bind (PySem.wpAt_stack fun p below => PySem.wpAt_of_wpAny ?_)
  wp_walk
  refine PySem.wpAt_of_wpAny ?_
  rw [F.owner]
  repeat (first | with_reducible refine wpAny_madeHere_exc F.canon cl ?_ | with_reducible refine wpAny_loadPart_at cl ?_ | (with_reducible refine wpAny_isSubtype_exc cl ?_; first | rw [c1] | rw [c2] | rw [c3]) | wp_step)
  show R _ _
  rw [Heap.size_push]
  exact z
theorem tc_own (F : ExcBaseFacts B nid iidB bmB) (tl : Tl B BI bm) {us : List Value} {fI : Addr} {Q : Fin → Shared → Prop} (cl : h.get? C = some (excClassObj nm q C N bs bm hdct sn sub ab col dd k0 k1 k2 k3 k5 nid))
    (hi : PySem.W.Looks (model prog w) h (typeLookup (.ref C) "__init__") (some (.ref fI))) (hb : ∀ self, PySem.W.Looks (model prog w) h (bindSpecial (.ref fI) self) (.ref fI, [self])) (hl : us.length ≤ sizeLine)
    (z : codeAny (model prog w) A (.call (.ref fI) ⟨.ref (h.objs.size + 1) :: us, []⟩) (fun r s' => match r with | .ok (.ret v) => v = .none ∧ Q (.done (.ret (.ref (h.objs.size + 1)))) s' | .ok _ => False | .error e => E e s')
      ⟨(h.push (PySem.W.kdv_tup us)).push (excO C h.objs.size), g, d, t, os⟩) : wpAny (model prog w) A (Builtin.«type.__call__» ⟨.ref C :: us, []⟩) Q E ⟨h, g, d, t, os⟩ := by
  repeat (first | with_reducible refine wpAny_loadPart_at cl ?_ | with_reducible refine wpAny_madeBy_exc cl ?_ | wp_step)
  refine codeAny_call_builtin_code (Code.quiet_builtin _ F.quiet) (ck_new F tl cl ?_)
  refine nw_own F tl cl ?_ hl
  show wpAny _ _ _ _ _ _
  have kp : ∀ b o, h.get? b = some o → ((h.push (PySem.W.kdv_tup us)).push (excO C h.objs.size)).get? b = some o := fun b o e => Heap.get?_push_of_some _ (Heap.get?_push_of_some _ e)
  have cl2 := kp _ _ cl
  have gt : ((h.push (PySem.W.kdv_tup us)).push (excO C h.objs.size)).get? (h.objs.size + 1) = some (excO C h.objs.size) := by heap_get
  have cc : (Value.ref C :: bm).contains (.ref C) = true := by simp
  have j1 := hi.keeps kp
  have j2 := (hb (.ref (h.objs.size + 1))).keeps kp
  unfold isInstance
  repeat (first | with_reducible refine wpAny_loadPart_at gt ?_ | (with_reducible refine wpAny_isSubtype_exc cl2 ?_; rw [cc]) | wp_step)
  show wpAny _ _ (typeLookup (.ref C) _) _ _ _
  refine j1.at ?_
  refine wpAny_holding (wpAny_bind (j2.at ?_))
  refine wpAny_bind (wpAny_call (codeAny_mono z fun r s' y => ?_))
  rcases r with e | (v | _ | _ | _) <;> first | exact y | exact y.elim | skip
  obtain ⟨rfl, y⟩ := y
  first
    | exact wpAny_pure (wpAny_pure y)
    | (wp_walk; exact y)
theorem cl_own (F : ExcBaseFacts B nid iidB bmB) (tl : Tl B BI bm) {us : List Value} {fI : Addr} (cl : h.get? C = some (excClassObj nm q C N bs bm hdct sn sub ab col dd k0 k1 k2 k3 k5 nid))
    (hi : PySem.W.Looks (model prog w) h (typeLookup (.ref C) "__init__") (some (.ref fI))) (hb : ∀ self, PySem.W.Looks (model prog w) h (bindSpecial (.ref fI) self) (.ref fI, [self])) (hl : us.length ≤ sizeLine)
    (z : codeAny (model prog w) (A.under (.builtin "type.__call__" ⟨.ref C :: us, []⟩)) (.call (.ref fI) ⟨.ref (h.objs.size + 1) :: us, []⟩) (PySem.W.InitBack (h.objs.size + 1) R) ⟨(h.push (PySem.W.kdv_tup us)).push (excO C h.objs.size), g, d, t, os⟩) :
    codeAny (model prog w) A (.call (.ref C) ⟨us, []⟩) R ⟨h, g, d, t, os⟩ := by
  have f1 := tc_lookup
  have f2 := tc_bind (.ref C)
  have ty : (⟨h, g, d, t, os⟩ : Shared).TypeIs (.ref C) "type" := ⟨_, cl, rfl⟩
  refine codeAny_of_tree ?_
  show wpAny _ _ (callAny (.ref C) _) _ _ _
  repeat (any_goals (first | assumption | with_reducible refine wpAny_loadPart_at cl ?_ | wp_step))
  refine ⟨rfl, ?_⟩
  refine codeAny_call_builtin_at (Code.quiet_builtin _ (by decide +kernel)) entry_typeCall (wpAny_check_type_call_sub cl (tc_own F tl cl hi hb hl ?_))
  refine codeAny_mono z fun r s' y => ?_
  rcases r with e | (v | _ | _ | _) <;> exact y
theorem ini_base (G : IniF BI iid) (tl : Tl B BI bm) {e t0 : Addr} {us : List Value} (cl : h.get? C = some (excClassObj nm q C N bs bm hdct sn sub ab col dd k0 k1 k2 k3 k5 nid)) (he : h.get? e = some (excO C t0)) (hl : us.length ≤ sizeLine)
    (z : ∀ h' t1, (∀ b o, b ≠ e → h.get? b = some o → h'.get? b = some o) → h'.get? e = some (excO C t1) → R (.ok (.ret .none)) ⟨h', g, d, t, os⟩) : codeAny (model prog w) A (.call (.builtin iid) ⟨.ref e :: us, []⟩) R ⟨h, g, d, t, os⟩ := by
  refine codeAny_call_builtin G.slot.plain G.entry (ck_ini G tl cl he rfl ?_)
  wp_walk
  refine z _ h.objs.size (fun b o hb ho => ?_) ?_
  · rw [Heap.get?_update_other _ _ (Ne.symm hb)]
    exact Heap.get?_push_of_some _ ho
  · rw [Heap.get?_update_self _ (Heap.get?_push_of_some _ he) rfl]
    rfl
end
section
variable {prog : Program} {w : World} {A : Around} {E : Value → Shared → Prop} {R : Result → Shared → Prop} {hp : Heap} {g : Array GenState} {d : Drawn} {t : Nat} {os : OsState}
theorem osaT {B BI : String} {K : PySem.W.Frag} {name : Str} {tk : Tok} {v : Value} {x C : Addr} {fv : Array Value} {cd : ClassData} (X : K.In hp) (hx : hp.get? x = some { cls := .ref C, data := .fields fv }) (hcd : PySem.W.clsIn K C = some cd) (tl : Tl B BI cd.mro) (hh : cd.hasDict = true)
    (ha : PySem.W.findIn K (.ref C) name = some none)
    (z : ∀ h' tk' dx, (∀ b o, b ≠ x → hp.get? b = some o → h'.get? b = some o) → hp.objs.size ≤ dx → dx ≠ x → h'.get? x = some { cls := .ref C, dict := some dx, data := .fields fv } → h'.Ns1 dx (fun y => if y = name then some v else none) → R (.ok (.ret .none)) ⟨h', g, d, tk', os⟩) :
    codeAny (model prog w) A (.call (.builtin "object.__setattr__") ⟨[.ref x, .str name tk, v], []⟩) R ⟨hp, g, d, t, os⟩ := by
  have J : PySem.W.InstAt hp x { cls := .ref C, data := .fields fv } C none := ⟨hx, rfl, rfl, trivial⟩
  have SF := F.store_object
  have ne : cd.mro.isEmpty = false := by
    cases e : cd.mro with
    | nil => have := tl.cO; rw [e] at this; cases this
    | cons => rfl
  have sz : x ≠ hp.objs.size := Nat.ne_of_lt (Heap.lt_size hx)
  have sub : PySem.W.Looks (model prog w) hp (isInstance (.ref x) (.type "object")) true := J.type.andThen (PySem.W.looks_mroIn X (by unfold PySem.W.mroIn; rw [hcd, Option.bind_some, if_neg (by rw [ne]; decide), tl.cO]))
  refine codeAny_call_builtin SF.slot.plain SF.entry (@PySem.W.check_slot (model prog w) _ _ ⟨hp, g, d, t, os⟩ "object.__setattr__" "object" "__setattr__" (.ref x) [.str name tk, v] [] _ SF.kind SF.split sub (SF.args (.ref x) (.str name tk) v) ?_)
  have l1 : PySem.W.Looks (model prog w) hp (mroOf (.ref C)) cd.mro := (PySem.W.looks_clsIn X hcd).andThen .now
  have l2 : PySem.W.Looks (model prog w) hp (storeTaker? none) none := .now
  have l3 : PySem.W.Looks (model prog w) hp (classData C) cd := PySem.W.looks_clsIn X hcd
  rw [PySem.W.osa_eq, refuse_eq]
  refine wpAny_bind (wpAny_bind (J.type.at (wpAny_bind (l1.at ?_))))
  rw [tl.pass _]
  refine wpAny_pure (wpAny_bind (J.type.at (wpAny_bind ((PySem.W.looks_findIn X ha).at (wpAny_bind (l2.at ?_))))))
  show wpAny _ _ (storeInOwnDict (.ref x) (.ref C) (.str name tk) name v false) _ _ _
  obtain ⟨nm, bs, mro, ns, qn, hd, sn, sb, ab, col, del⟩ := cd
  dsimp only at hh
  subst hh
  unfold storeInOwnDict ownDictForStores
  repeat (first | with_reducible refine store_in_new ?_ ?_ | with_reducible refine wpAny_loadPart_at hx ?_ | with_reducible refine l3.at ?_ | wp_step)
  · exact ⟨_, #[], _, (Heap.get?_update_ne _ _ _ _ sz.symm).trans (Heap.get?_push_at rfl rfl), rfl, fun e he => absurd he (by simp), fun _ => rfl⟩
  · intro h' tk' hn' hs
    have hx2 : (hp.push { cls := .type "dict", data := .dict #[] }).get? x = some { cls := .ref C, data := .fields fv } := Heap.get?_push_of_some _ hx
    refine z h' tk' hp.objs.size (fun b o hb ho => ?_) (Nat.le_refl _) sz.symm ?_ hn'
    · exact (hs.2 b (Nat.ne_of_lt (Heap.lt_size ho))).trans ((Heap.get?_update_ne _ _ _ _ hb).trans (Heap.get?_push_of_some _ ho))
    · exact (hs.2 x sz).trans (Heap.get?_update_self _ hx2 rfl)
end
end AT

set_option maxHeartbeats 4000000
/-! exceptions of the program over KeyError and LookupError: made and raised -/
namespace AT
open PySem PySem.Spec PyProof.Rows L2 PySem.HandSPX
/-! ### the classes behind -/
abbrev keTail : List Value := [.type "KeyError", .type "LookupError", .type "Exception", .type "BaseException", .type "object"]
abbrev leTail : List Value := [.type "LookupError", .type "Exception", .type "BaseException", .type "object"]
theorem tlK : Tl "LookupError" "KeyError" keTail := ⟨by decide +kernel, by decide +kernel, by decide +kernel, by decide +kernel, by decide +kernel, fun self => by
  unfold refuseLoop
  kernel_rfl⟩
theorem tlL : Tl "LookupError" "LookupError" leTail := ⟨by decide +kernel, by decide +kernel, by decide +kernel, by decide +kernel, by decide +kernel, fun self => by
  unfold refuseLoop
  kernel_rfl⟩
def refsT (tl : List Value) : List Value → Bool
  | .ref _ :: r => refsT tl r
  | l => l == tl
theorem refsT_tl {B BI : String} {tl : List Value} (h : Tl B BI tl) : ∀ l : List Value, refsT tl l = true → Tl B BI l
  | [], e => by have z : ([] : List Value) = tl := beq_iff_eq.mp e; rw [z]; exact h
  | .ref c :: r, e => (refsT_tl h r e).cons c
  | .none :: r, e => by have z : (Value.none :: r) = tl := beq_iff_eq.mp e; rw [z]; exact h
  | .ellipsis :: r, e => by have z : (Value.ellipsis :: r) = tl := beq_iff_eq.mp e; rw [z]; exact h
  | .notImplemented :: r, e => by have z : (Value.notImplemented :: r) = tl := beq_iff_eq.mp e; rw [z]; exact h
  | .bool b :: r, e => by have z : (Value.bool b :: r) = tl := beq_iff_eq.mp e; rw [z]; exact h
  | .int a b :: r, e => by have z : (Value.int a b :: r) = tl := beq_iff_eq.mp e; rw [z]; exact h
  | .float a b :: r, e => by have z : (Value.float a b :: r) = tl := beq_iff_eq.mp e; rw [z]; exact h
  | .str a b :: r, e => by have z : (Value.str a b :: r) = tl := beq_iff_eq.mp e; rw [z]; exact h
  | .bytes a b :: r, e => by have z : (Value.bytes a b :: r) = tl := beq_iff_eq.mp e; rw [z]; exact h
  | .type a :: r, e => by have z : (Value.type a :: r) = tl := beq_iff_eq.mp e; rw [z]; exact h
  | .builtin a :: r, e => by have z : (Value.builtin a :: r) = tl := beq_iff_eq.mp e; rw [z]; exact h
/-- what the written part says of the class -/
structure OexG (K : PySem.W.Frag) (BI : String) (C : Addr) : Prop where
  cls : ∃ nm q N bs bm sn sub ab col dd k0 k1 k2 k3 k5, K.lookup C = some (excClassObj nm q C N bs bm true sn sub ab col dd k0 k1 k2 k3 k5 "LookupError.__new__") ∧ Tl "LookupError" BI bm
  sa : PySem.W.findIn K (.ref C) "__setattr__" = some (some (.builtin "object.__setattr__"))
  exC : PySem.W.subIn K (.ref C) (.type "BaseException") = some true
  tyC : PySem.W.typeIn K (.ref C) = some (.type "type")
  kC : PySem.W.keepIn K (.ref C) = true
section
variable {X : Cx} {pins : List (Addr × Obj)} {σ : L2.St} {H : Hp} {s : Shared} {a C dx : Addr} {f : Str} {y : V} {u : Value} {fs : List (Str × V)} {E : Value → Shared → Prop} {A : Around} {BI iid : String}
theorem ostG_new {Q : Unit → Shared → Prop} (T : OexG X.K BI C) (I : Inv X pins σ H s) (e : H a = some (exo a C none)) (hno : PySem.W.findIn X.K (.ref C) f = some none) (ry : RelV y u)
    (h : ∀ dx s', H dx = none → dx ≠ a → Inv X pins σ (upd (upd H dx (exd dx [(f, y)])) a (exo a C (some dx))) s' → Q () s') : wpAny (model X.prog X.w) A (setAttr (.ref a) f u) Q E s := by
  obtain ⟨nm, q, N, bs, bm, sn, sub, ab, col, dd, k0, k1, k2, k3, k5, hC, hbm⟩ := T.cls
  have hcl : PySem.W.clsIn X.K C = some { name := nm, bases := bs, mro := .ref C :: bm, ns := N, qualname := q, hasDict := true, slotNames := sn, subclasses := sub, abstract := ab, collection := col, hasDel := false } := by unfold PySem.W.clsIn; rw [hC] <;> rfl
  obtain ⟨t1, ho⟩ := exo_at I.hok e
  obtain ⟨hp, g, d, t, os⟩ := s
  refine PySem.W.set_plain I.kIn (ox := { cls := .ref C, dict := none, data := .fields #[.ref t1, .none, .none, .none, .bool false, .none] }) (od := none) ⟨ho, rfl, rfl, trivial⟩ T.sa ?_
  refine osaT (B := "LookupError") (BI := BI) I.kIn ho hcl (hbm.cons C) rfl hno (fun h' tk' dx k dn dne hx hn => ?_)
  have hnd : H dx = none := I.hok.fresh dn
  have nd : ∀ {b : Addr} {o : Obj}, hp.get? b = some o → b ≠ dx := fun {b o} q => Nat.ne_of_lt (Nat.lt_of_lt_of_le (Heap.lt_size q) dn)
  have na : ∀ {b : Addr}, H b = none → b ≠ a := fun {b} n z => by
    rw [z, e] at n
    cases n
  have U : Un X.fs [] H (upd (upd H dx (exd dx [(f, y)])) a (exo a C (some dx))) hp h' := {
    keep := fun b o q n _ _ => k b o (na n) q
    slot := fun b o q n _ _ => ⟨o.slots, k b o (na n) q⟩
    free := fun b o q n _ => by rw [upd_ne (na n), upd_ne (nd q)]; exact n
    there := fun b o q _ => by
      by_cases hb : b = a
      · exact ⟨_, by rw [hb]; exact hx⟩
      · exact ⟨o, k b o hb q⟩
    tups := fun b xs q => by rw [upd_ne (at_ne e q exo_tup), upd_ne (ne_of_none q hnd)]; exact q
    frzs := fun b o v q => by rw [upd_ne (at_ne e q exo_frz), upd_ne (ne_of_none q hnd)]; exact q
    tbls := fun b ps q => ⟨#[], by rw [upd_ne (at_ne e q exo_tbl), upd_ne (ne_of_none q hnd), q]; simp⟩ }
  refine h dx _ hnd dne (I.un (t' := tk') U fun b o q => ?_)
  by_cases hb : b = a
  · subst hb
    rw [upd_same] at q
    cases q
    exact exo_ok hx
  · rw [upd_ne hb] at q
    by_cases hd : b = dx
    · subst hd
      rw [upd_same] at q
      cases q
      exact exd_ok hn (relO_put (fs := []) ry fun g => True.intro)
    · rw [upd_ne hd] at q
      exact (I.hok b o q).stay (fun c v hc z => k c v (by
          rcases hc with hc | hc
          · rw [hc]
            exact hb
          · exact at_ne e hc exo_own) z)
        (fun c hc => by rw [upd_ne (at_ne e hc exo_own), upd_ne (ne_of_none hc hnd)]; exact hc) (fun c xs hc => by rw [upd_ne (at_ne e hc exo_tup), upd_ne (ne_of_none hc hnd)]; exact hc)
theorem oinitG_ok {us : List Value} {Q : Value → Shared → Prop} (G : IniF BI iid) (T : OexG X.K BI C) (I : Inv X pins σ H s) (e : H a = some (exo a C none)) (hl : us.length ≤ sizeLine) (h : ∀ s', Inv X pins σ H s' → Q .none s') :
    wpAny (model X.prog X.w) A (call (.builtin iid) (.ref a :: us)) Q E s := by
  obtain ⟨nm, q, N, bs, bm, sn, sub, ab, col, dd, k0, k1, k2, k3, k5, hC, hbm⟩ := T.cls
  obtain ⟨t1, ho⟩ := exo_at I.hok e
  obtain ⟨hp, g, d, t, os⟩ := s
  refine wpAny_call (ini_base G hbm (I.kIn _ _ hC) ho hl fun h' t2 k hx => ?_)
  have J := I.write (t' := t) (x := a) (e := a) (o := exo a C none) (by rw [e]; exact True.intro) (.inl rfl) k ⟨_, hx⟩ (exo_ok hx)
  have eu : upd H a (exo a C none) = H := by
    funext b
    by_cases hb : b = a
    · rw [hb, upd_same, e]
    · rw [upd_ne hb]
  rw [eu] at J
  exact h _ J
end
/-! ### readings and rules -/
def tVeG (K : PySem.W.Frag) (BI : String) (ta : TA) : TE := fun σ H Q => ta σ H fun vs H1 => ∃ (a C : Addr) (ws : List V), vs = .ref a :: ws ∧ ws.length ≤ 1000 ∧ OexG K BI C ∧ H1 a = some (exo a C none) ∧ Q .non H1
def tOsG (K : PySem.W.Frag) (BI : String) (f : Str) (to te : TE) : TS := fun D σ H => te σ H fun y H1 => to σ H1 fun x H2 => ∃ a C : Addr, x = .ref a ∧ OexG K BI C ∧ PySem.W.findIn K (.ref C) f = some none ∧
  H2 a = some (exo a C none) ∧ ∀ dx, H2 dx = none → dx ≠ a → D.nx σ (upd (upd H2 dx (exd dx [(f, y)])) a (exo a C (some dx)))
/-- the base class of the package: B.__init__ is a built-in's -/
structure BaG (K : PySem.W.Frag) (BI iid : String) (B : Str) : Prop where
  rd : PySem.W.readsIn K (He.ga K B) (.type "type") = true
  ga : PySem.W.specialIn K (.ref (He.ga K B)) "__getattribute__" = some (some (.builtin "type.__getattribute__"))
  ini : PySem.W.findCls K (.ref (He.ga K B)) (.type "type") "__init__" = some (.val (.builtin iid))
  glo : PySem.W.nsIn K mainGlobals B = some (some (.ref (He.ga K B)))
  fin : IniF BI iid
  hi : PySem.W.handedIn (.builtin iid) = true
section
variable {X : Cx} {o e : Expr} {es : List Expr} {to te : TE} {ta : TA} {f B : Str} {p p' p1 p2 pos : Pos} {BI iid : String}
theorem psG_ost (ho : PE X o to) (he : PE X e te) (hs : swapsWith e (some (.Attribute o f p')) pos.line X.env = pure false := by rfl) : PS X (.Assign [.Attribute o f p'] e pos) (tOsG X.K BI f to te) := by
  refine ⟨fun pins s σ H D I h => ?_⟩
  refine plainObj_wpAny_Assign_Attribute (thn (he.run pins s σ H _ I h) fun v s1 ⟨y, H1, I1, r1, q1⟩ => thn (ho.run pins s1 σ H1 _ I1 q1) fun u s2 ⟨x, H2, I2, r2, a, C, ex, T, hno, ea, q⟩ => ?_) hs
  subst ex
  obtain rfl : u = Value.ref a := r2
  exact ostG_new T I2 ea hno r1 fun dx s' n ne J => ⟨σ, _, J, q dx n ne⟩
/-- B.__init__(self, ..), B an own class over KeyError or LookupError -/
theorem peG_cinit {look : Sem Bool} (T : BaG X.K BI iid B) (hB : Gl X B) (hmB : X.mg B = some (.ref (He.ga X.K B))) (hA : PA X (e :: es) ta)
    (hev : eval (.Call (.Attribute (.Name B p1) "__init__" p2) (e :: es) [] pos) X.env = (do
      let cv ← eval (.Name B p1) X.env
      standAt p2.atName
      let (fv, frst) ← holding [cv] (getMethod cv "__init__" look)
      callWith pos fv frst (backTo pos (starEach (e :: es) X.env)) (backToKw pos (keywordEach [] X.env))) := by rfl)
    (hdb : (B == ("__debug__" : Str)) = false := by decide)
    (hst : starEach (e :: es) X.env = (false, eval e X.env) :: starEach es X.env := by rfl) (hns : (backTo pos (starEach es X.env)).any (·.1) = false := by rfl) :
    PE X (.Call (.Attribute (.Name B p1) "__init__" p2) (e :: es) [] pos) (tVeG X.K BI ta) := by
  constructor
  intro pins s σ H Q I h
  refine PySem.W.methodCall_KW (ld_glob I hB hmB ?_ hdb) hev
  refine PySem.W.method_cls I.kIn T.ga (PySem.W.cls_value I.kIn T.rd T.ini T.hi ?_)
  show wpAny _ _ (callWith pos (Value.builtin iid) [] (backTo pos (starEach (e :: es) X.env)) []) _ _ _
  refine PyProof.Rows.callWith_method1 (thn (hA.run pos pins _ σ H _ (I.tok _) h) fun vals s1 ⟨vs, H1, I1, r1, a, C, ws, ev, hl, To, ea, q⟩ => ?_) hst hns
  subst ev
  cases r1 with
  | @cons _ v0 _ vr ra rr =>
    obtain rfl : v0 = Value.ref a := ra
    refine oinitG_ok T.fin To I1 ea ?_ fun s' J => ⟨.non, H1, J, rfl, q⟩
    rw [← Paired.length rr, sizeLine_eq]
    omega
theorem pmkG {CX : CXT} {x : Str} {C fI : Addr} {k : Nat} {fd : FuncData} {ps : List Str} {sp : Sp} {ds : List Value} {dvs : List V} (T : OexG X.K BI C) (iC : PySem.W.findIn X.K (.ref C) "__init__" = some (some (.ref fI))) (tI : PySem.W.typeIn X.K (.ref fI) = some (.type "function"))
    (F1 : FnOk X.prog X.w X.K X.mg X.base CX k fI fd ps sp) (hr : Room (k + 1) X.A) (hb : Binds X.K fd ps ds) (hd : Vals dvs ds) (hx : Passes CX X (fun _ _ _ => False)) (hg : Gl X x) (hm : X.mg x = some (.ref C)) (ha : PA X (e :: es) ta)
    (hdb : (x == ("__debug__" : Str)) = false := by decide) (he : starEach (e :: es) X.env = (false, eval e X.env) :: starEach es X.env := by rfl) (hpl : (backTo pos (starEach es X.env)).any (·.1) = false := by rfl) :
    PMk X (.Call (.Name x p) (e :: es) [] pos) (tMkO C sp dvs ta) := by
  intro pins s σ H Q I h
  obtain ⟨nm, q, N, bs, bm, sn, sub, ab, col, dd, k0, k1, k2, k3, k5, hC, hbm⟩ := T.cls
  refine wpAny_Call_Name_kw (ld_glob I hg hm ?_ hdb)
  refine PySem.W.callWith_K (h₀ := X.base) I.ok.mod.kin T.kC (thn (ha.run pos pins s σ H _ I h) fun us s1 ⟨vs, H1, I1, r1, hz, q1⟩ => ⟨I1.kIn, ?_⟩) he hpl
  show wpAny _ _ (call (.ref C) us) _ _ _
  obtain ⟨hp, g, dr, tk, os⟩ := s1
  have hsz : hp.objs.size ≤ hp.objs.size + 1 := Nat.le_succ _
  have hn : H1 (hp.objs.size + 1) = none := I1.hok.fresh hsz
  have hq := q1 (hp.objs.size + 1) hn
  have kk : ∀ b o, hp.get? b = some o → ((hp.push (PySem.W.kdv_tup us)).push (PySem.HandSPX.excO C hp.objs.size)).get? b = some o := fun b o e => Heap.get?_push_of_some _ (Heap.get?_push_of_some _ e)
  have hget : ((hp.push (PySem.W.kdv_tup us)).push (PySem.HandSPX.excO C hp.objs.size)).get? (hp.objs.size + 1) = some (PySem.HandSPX.excO C hp.objs.size) := by heap_get
  have I2 : Inv X pins σ (upd H1 (hp.objs.size + 1) (exo (hp.objs.size + 1) C none)) ⟨(hp.push (PySem.W.kdv_tup us)).push (PySem.HandSPX.excO C hp.objs.size), g, dr, tk, os⟩ :=
    I1.laid (t' := tk) (a := hp.objs.size + 1) (o := exo (hp.objs.size + 1) C none) (h' := (hp.push (PySem.W.kdv_tup us)).push (PySem.HandSPX.excO C hp.objs.size)) kk hsz (exo_ok hget)
  have r2 : Vals (V.ref (hp.objs.size + 1) :: (vs ++ dvs)) (Value.ref (hp.objs.size + 1) :: (us ++ ds)) := .cons rfl (r1.append hd)
  have hl : (Value.ref (hp.objs.size + 1) :: us ++ ds).length = ps.length := by
    have e := r2.length
    rw [F1.len _ _ _ _ hq] at e
    exact e.symm
  have hus : us.length ≤ sizeLine := by
    rw [← Paired.length r1, sizeLine_eq]
    omega
  refine wpAny_call (cl_own F.excBase_LookupError hbm (I1.kIn _ _ hC) (PySem.W.looks_findIn I1.kIn iC) (fun self => PySem.W.bind_fn I1.kIn self tI) hus
    (codeAny_mono (F1.run _ X.stack _ _ ⟨Value.ref (hp.objs.size + 1) :: us, []⟩ (Value.ref (hp.objs.size + 1) :: (us ++ ds)) _ _ (fun _ _ _ => False) (hr.make C us []) (I2.env0.make C us []) (hb _ (Value.ref (hp.objs.size + 1) :: us) I2.kIn hl) r2 hq) fun r s' hq' => ?_))
  cases r with
  | error er => exact hx pins σ _ _ er s' I2 hq'
  | ok fl =>
    cases fl with
    | ret u =>
      obtain ⟨v, H2, os2, bare2, un2, hok2, rv, ev, d, fs, ea, ed, hd1, q2⟩ := hq'
      subst ev
      obtain ⟨h2, g2, d2, t2, os'⟩ := s'
      exact ⟨rv, mk_end (raises_own T.exC T.tyC) I1 hsz kk un2 hok2 os2 bare2 ea ed hd1 q2⟩
    | next => exact False.elim hq'
    | brk => exact False.elim hq'
    | cont => exact False.elim hq'
end
/-- what an exception's own __init__(self, f) promises -/
def spXiG (K : PySem.W.Frag) (BI : String) (C : Addr) (f : Str) : Sp := fun vs H Q _ => ∃ (a : Addr) (v : V), vs = [.ref a, v] ∧ OexG K BI C ∧ PySem.W.findIn K (.ref C) f = some none ∧ H a = some (exo a C none) ∧
  ∀ d, H d = none → d ≠ a → Q .non (upd (upd H d (exd d [(f, v)])) a (exo a C (some d)))
theorem xiG_reading {K : PySem.W.Frag} {BI : String} {C : Addr} {f : Str} {t : Str} {N : List Str} (hN : N = [("self" : Str), f]) (vs : List V) (H : Hp) (Q : VK) (E : XK) (h : spXiG K BI C f vs H Q E) :
    tSeq (tDrop (tVeG K BI (tCons (tVar 0) (tCons (tC (.str t)) tNil)))) (tOsG K BI f (tVar 0) (tVar 1)) { nx := fun _ H' => Q .non H', rt := Q } (start N vs) H := by
  obtain ⟨a, v, rfl, T, no, ha, k⟩ := h
  subst hN
  exact ⟨_, rfl, a, C, [.str t], rfl, (by show 1 ≤ 1000; decide), T, ha, _, rfl, _, rfl, a, C, rfl, T, no, ha, k⟩
abbrev tMkG (K : PySem.W.Frag) (BI : String) (C : Addr) (f : Str) (te : TE) : L2.St → Hp → XK → Prop := tMkO C (spXiG K BI C f) [] (tCons te tNil)
structure MkXG (X : Cx) (BI : String) (x f : Str) : Prop where
  run : ∀ {e : Expr} {te : TE} {p pos : Pos}, Gl X x → PE X e te → starEach [e] X.env = (false, eval e X.env) :: starEach [] X.env → PMk X (.Call (.Name x p) [e] [] pos) (tMkG X.K BI (He.ga X.K x) f te)
theorem mk_atG {K : PySem.W.Frag} {BI : String} {C : Addr} {f : Str} {v : V} {H1 : Hp} {Q : XK} (T : OexG K BI C) (no : PySem.W.findIn K (.ref C) f = some none) (k : ∀ d, H1 d = none → Q (.ref C) (some d) (upd H1 d (.xd [(f, v)]))) :
    [v].length ≤ 1000 ∧ ∀ a, H1 a = none → spXiG K BI C f (.ref a :: ([v] ++ [])) (upd H1 a (exo a C none))
      (fun r H2 => r = .non ∧ ∃ (d : Addr) (fs : List (Str × V)), H2 a = some (exo a C (some d)) ∧ H2 d = some (exd d fs) ∧ H1 d = none ∧ Q (.ref C) (some d) (upd (del H2 a) d (.xd fs))) (fun _ _ _ => False) := by
  refine ⟨(by show 1 ≤ 1000; decide), fun a ha => ⟨a, v, rfl, T, no, upd_same, fun d hd hda => ?_⟩⟩
  have hd1 : H1 d = none := by rw [upd_ne hda] at hd; exact hd
  refine ⟨rfl, d, [(f, v)], upd_same, ?_, hd1, ?_⟩
  · rw [upd_ne hda, upd_same]
  · rw [heap_back ha hda]
    exact k d hd1
/-! ### facts -/
def excGB (K : PySem.W.Frag) (tl : List Value) (C : Addr) : Bool := match K.lookup C with
  | some ⟨.type t, _, .cls cd, sl⟩ => (match cd.mro, sl.toList with
    | .ref D :: bm, [_, _, _, _, some (.builtin n), _] => decide (t = "type") && (decide (D = C) && (decide (n = "LookupError.__new__") && (!cd.hasDel && (cd.hasDict && refsT tl bm))))
    | _, _ => false)
  | _ => false
theorem excGB_ok {K : PySem.W.Frag} {BI : String} {tl : List Value} (htl : Tl "LookupError" BI tl) {C : Addr} (h : excGB K tl C = true) :
    ∃ nm q N bs bm sn sub ab col dd k0 k1 k2 k3 k5, K.lookup C = some (excClassObj nm q C N bs bm true sn sub ab col dd k0 k1 k2 k3 k5 "LookupError.__new__") ∧ Tl "LookupError" BI bm := by
  unfold excGB at h
  split at h
  · rename_i t dd cd sl ho
    split at h
    · rename_i D bm k0 k1 k2 k3 n k5 hm hs
      simp only [Bool.and_eq_true, decide_eq_true_eq, Bool.not_eq_true'] at h
      obtain ⟨rfl, rfl, rfl, hdel, hdic, ht⟩ := h
      obtain ⟨nm, bs, mro, ns, qn, hd, sn, sub, ab, col, del⟩ := cd
      dsimp only at hm hdel hdic
      subst hm hdel hdic
      have hsl : sl = #[k0, k1, k2, k3, some (.builtin "LookupError.__new__"), k5] := by
        obtain ⟨l⟩ := sl
        simp only at hs
        rw [hs]
      subst hsl
      exact ⟨nm, qn, ns, bs, bm, sn, sub, ab, col, dd, k0, k1, k2, k3, k5, ho, refsT_tl htl _ ht⟩
    · cases h
  · cases h
def xcGB (tl : List Value) (x f : Str) (K : PySem.W.Frag) : Bool :=
  excGB K tl (He.ga K x) && (He.eqO (PySem.W.findIn K (.ref (He.ga K x)) "__setattr__") (some (some (.builtin "object.__setattr__"))) &&
  (decide (PySem.W.subIn K (.ref (He.ga K x)) (.type "BaseException") = some true) && (decide (PySem.W.typeIn K (.ref (He.ga K x)) = some (.type "type")) &&
  (PySem.W.keepIn K (.ref (He.ga K x)) && (He.eqO (PySem.W.findIn K (.ref (He.ga K x)) f) (some none) && (xfB K (He.ga K x) &&
  (He.eqO (PySem.W.findIn K (.ref (He.ga K x)) "__init__") (some (some (.ref (He.ma K (He.ga K x) "__init__")))) &&
  decide (PySem.W.typeIn K (.ref (He.ma K (He.ga K x) "__init__")) = some (.type "function"))))))))) 
structure XcG (K : PySem.W.Frag) (BI : String) (x f : Str) : Prop where
  oex : OexG K BI (He.ga K x)
  xf : XfC K (He.ga K x)
  no : PySem.W.findIn K (.ref (He.ga K x)) f = some none
  ini : PySem.W.findIn K (.ref (He.ga K x)) "__init__" = some (some (.ref (He.ma K (He.ga K x) "__init__")))
  tyi : PySem.W.typeIn K (.ref (He.ma K (He.ga K x) "__init__")) = some (.type "function")
theorem xcGB_ok {K : PySem.W.Frag} {BI : String} {tl : List Value} (htl : Tl "LookupError" BI tl) {x f : Str} (h : xcGB tl x f K = true) : XcG K BI x f := by
  obtain ⟨h1, h⟩ := He.ba h
  obtain ⟨h2, h⟩ := He.ba h
  obtain ⟨h3, h⟩ := He.ba h
  obtain ⟨h4, h⟩ := He.ba h
  obtain ⟨h5, h⟩ := He.ba h
  obtain ⟨h6, h⟩ := He.ba h
  obtain ⟨h7, h⟩ := He.ba h
  obtain ⟨h8, h9⟩ := He.ba h
  exact ⟨⟨excGB_ok htl h1, He.eqO_ok h2, of_decide_eq_true h3, of_decide_eq_true h4, h5⟩, xfB_ok h7, He.eqO_ok h6, He.eqO_ok h8, of_decide_eq_true h9⟩
def baGB (iid : String) (B : Str) (K : PySem.W.Frag) : Bool :=
  PySem.W.readsIn K (He.ga K B) (.type "type") && (He.eqO (PySem.W.specialIn K (.ref (He.ga K B)) "__getattribute__") (some (some (.builtin "type.__getattribute__"))) &&
  (valB (PySem.W.findCls K (.ref (He.ga K B)) (.type "type") "__init__") (.builtin iid) &&
  (He.eqO (PySem.W.nsIn K mainGlobals B) (some (some (.ref (He.ga K B)))) && PySem.W.handedIn (.builtin iid))))
theorem baGB_ok {K : PySem.W.Frag} {BI iid : String} (G : IniF BI iid) {B : Str} (h : baGB iid B K = true) : BaG K BI iid B := by
  obtain ⟨h1, h⟩ := He.ba h
  obtain ⟨h2, h⟩ := He.ba h
  obtain ⟨h3, h⟩ := He.ba h
  obtain ⟨h4, h5⟩ := He.ba h
  exact ⟨h1, He.eqO_ok h2, valB_ok h3, He.eqO_ok h4, G, h5⟩
theorem mk_XG {X : Cx} {BI : String} {x f : Str} {k : Nat} (T : XcG X.K BI x f) (hm : X.mg x = some (.ref (He.ga X.K x))) (F : Ok X.prog X.w X.K X.mg X.base k (He.ma X.K (He.ga X.K x) "__init__") [("self" : Str), f] (spXiG X.K BI (He.ga X.K x) f)) (hr : Room (k + 1) X.A) (hdb : (x == ("__debug__" : Str)) = false := by decide) : MkXG X BI x f := by
  obtain ⟨fd, F1, b, kp⟩ := F
  refine ⟨fun {e te p pos} hg he hst => ?_⟩
  exact pmkG T.oex T.ini T.tyi F1 hr b .nil passL hg hm (pa_cons he pa_nil hst) hdb hst rfl
/-- raise X(e) -/
theorem ps_rsG {X : Cx} {BI : String} {x f : Str} {W : WX} {e : Expr} {te : TE} {p pos pos2 : Pos} (hc : X.calm = true) (M : MkXG X BI x f) (tk : Takes X W) (hg : Gl X x) (he : PE X e te) (hst : starEach [e] X.env = (false, eval e X.env) :: starEach [] X.env := by rfl) :
    PS X (.Raise (some (.Call (.Name x p) [e] [] pos)) none pos2) (fun _ σ H => tMkG X.K BI (He.ga X.K x) f te σ H fun cls d H' => W cls d σ H') := ps_raise hc tk (M.run hg he hst)
end AT

set_option maxHeartbeats 4000000
/-! == of lists with own == within, both answers; list.index by own == -/
namespace AT
open PySem PySem.Spec PyProof.Rows L2
section
open MeetsSeq MeetsSeq2 MeetsSeq3 SeqRoads2 GQ
open AutoSeq1 (wpAny_loadPart')
variable {prog : Program} {w : World} {A : Around} {R : Result → Shared → Prop} {E : Value → Shared → Prop}
/-- the two lists stand at each turn; the i-th two are compared with the answer e i -/
def LstJ (prog : Program) (w : World) (A : Around) (E : Value → Shared → Prop) (l b : Addr) (N : Nat) (e : Nat → Bool) (J : Shared → Prop) : Prop :=
  ∀ t, J t → ∃ (us vs : Array Value) (m1 m2 : Nat), t.heap.get? l = some { cls := .type "list", data := .seq us m1 } ∧ t.heap.get? b = some { cls := .type "list", data := .seq vs m2 } ∧ us.size = N ∧ vs.size = N ∧
    ∀ i (h1 : i < us.size) (h2 : i < vs.size), wpAny (model prog w) A.in1 (eqBool us[i] vs[i]) (fun c t' => c = e i ∧ J t') E t
theorem eqc_loop {l b : Addr} {N : Nat} {e : Nat → Bool} {J : Shared → Prop} (hl : LstJ prog w A (fun er t' => R (.error er) t') l b N e J) (done : ∀ t, J t → R (.ok (.ret (.bool ((List.range N).all e)))) t) (k : Nat) :
    ∀ i : Nat, N - i = k → i ≤ N → ((List.range N).take i).all e = true → ∀ t, J t → wpAny (model prog w) A.in1 (Builtin.«list.__eq__.loop» ⟨[.ref l, .ref b, rawInt i, rawInt 2], []⟩) (FinOf prog w A R) (fun er t' => R (.error er) t') t := by
  induction k with
  | zero =>
    intro i hk hi hall t hJ
    obtain ⟨us, vs, m1, m2, g1, g2, z1, z2, _⟩ := hl _ hJ
    have fin := done t hJ
    rw [List.take_of_length_le (by simp; omega)] at hall
    rw [hall] at fin
    obtain ⟨x1, x2, x3, x4, x5⟩ := t
    wp_walk using wpAny_loadPart' g1, wpAny_loadPart' g2
    have n1 : us[((i : Nat) : Int).toNat]? = none := by simp; omega
    have n2 : vs[((i : Nat) : Int).toNat]? = none := by simp; omega
    rw [n1, n2]
    wp_walk using wpAny_loadPart' g1, wpAny_loadPart' g2
    show R (.ok (.ret (.bool (us.size == vs.size)))) _
    rw [z1, z2]
    simpa using fin
  | succ k ih =>
    intro i hk hi hall t hJ
    obtain ⟨us, vs, m1, m2, g1, g2, z1, z2, turn⟩ := hl _ hJ
    have l1 : i < us.size := by omega
    have l2 : i < vs.size := by omega
    have st := turn i l1 l2
    obtain ⟨x1, x2, x3, x4, x5⟩ := t
    wp_walk using wpAny_loadPart' g1, wpAny_loadPart' g2
    have n1 : us[((i : Nat) : Int).toNat]? = some us[i] := by simp [l1]
    have n2 : vs[((i : Nat) : Int).toNat]? = some vs[i] := by simp [l2]
    have nc : ((i : Int) + 1) = ((i + 1 : Nat) : Int) := by omega
    rw [n1, n2]
    refine wpAny_bind (wpAny_mono st (fun c t2 z => ?_) fun _ _ z => z)
    obtain ⟨rfl, hJ2⟩ := z
    cases hc : e i with
    | true =>
      have rest := ih (i + 1) (by omega) (by omega) (by
        rw [List.take_succ, List.all_append, hall, Bool.true_and]
        have : i < N := by omega
        simp [this, hc]) t2 hJ2
      obtain ⟨y1, y2, y3, y4, y5⟩ := t2
      wp_walk
      rw [nc]
      exact ⟨plainId_quiet plain_eq_loop _, codeAny_builtin entry_eq_loop (by
        rw [Around.under_plainId plain_eq_loop _]
        exact rest)⟩
    | false =>
      have fin := done _ hJ2
      have hf : (List.range N).all e = false := by
        rw [List.all_eq_false]
        exact ⟨i, List.mem_range.mpr (by omega), by rw [hc]; decide⟩
      rw [hf] at fin
      obtain ⟨us2, vs2, m3, m4, g3, g4, z3, z4, _⟩ := hl _ hJ2
      obtain ⟨y1, y2, y3, y4, y5⟩ := t2
      have n3 : us2[((i : Nat) : Int).toNat]? = some us2[i] := by simp
      have n4 : vs2[((i : Nat) : Int).toNat]? = some vs2[i] := by simp
      wp_walk using wpAny_loadPart' g3, wpAny_loadPart' g4
      rw [n3, n4]
      wp_walk
      exact fin
theorem eqc {l b : Addr} {N : Nat} {e : Nat → Bool} {J : Shared → Prop} {Q : Value → Shared → Prop} {t : Shared} (hu : A.units < cLine) (hl : LstJ prog w A E l b N e J) (done : ∀ t, J t → Q (.bool ((List.range N).all e)) t) (h0 : J t) :
    wpAny (model prog w) A (richCompare .Eq (.ref l) (.ref b)) Q E t := by
  obtain ⟨us, vs, m1, m2, g1, g2, z1, z2, _⟩ := hl _ h0
  refine wpAny_richCompare_same_room (op := .Eq) ⟨_, g1, rfl⟩ ⟨_, g2, rfl⟩ F.slot_list_eq (call_here F.slot_list_eq ⟨_, g1, rfl⟩ F.entry_list_eq (F.args_list_eq_2 _ _) ?_) hu
  have rest := eqc_loop (A := A) (R := wants (fun v t' => v ≠ .notImplemented ∧ Q v t') E) hl (fun t' z => ⟨(fun x => nomatch x), done t' z⟩) _ 0 rfl (Nat.zero_le _) rfl t h0
  obtain ⟨x1, x2, x3, x4, x5⟩ := t
  have sb := AutoSeq1.sub_list_list
  have hne : ¬ (us.size != vs.size) = true := by simp [z1, z2]
  wp_walk using wpAny_loadPart' g1, wpAny_loadPart' g2
  exact ⟨plainId_quiet plain_eq_loop _, codeAny_builtin entry_eq_loop (by
    rw [Around.under_plainId plain_eq_loop _]
    exact rest)⟩
/-- lists of unlike lengths -/
theorem eqc_len {l b : Addr} {us vs : Array Value} {m1 m2 : Nat} {Q : Value → Shared → Prop} {t : Shared} (hu : A.units < cLine) (g1 : t.heap.get? l = some { cls := .type "list", data := .seq us m1 }) (g2 : t.heap.get? b = some { cls := .type "list", data := .seq vs m2 })
    (hz : us.size ≠ vs.size) (done : Q (.bool false) t) : wpAny (model prog w) A (richCompare .Eq (.ref l) (.ref b)) Q E t := by
  refine wpAny_richCompare_same_room (op := .Eq) ⟨_, g1, rfl⟩ ⟨_, g2, rfl⟩ F.slot_list_eq (call_here F.slot_list_eq ⟨_, g1, rfl⟩ F.entry_list_eq (F.args_list_eq_2 _ _) ?_) hu
  obtain ⟨x1, x2, x3, x4, x5⟩ := t
  have sb := AutoSeq1.sub_list_list
  have hne : (us.size != vs.size) = true := by simp [hz]
  wp_walk using wpAny_loadPart' g1, wpAny_loadPart' g2
  exact ⟨(fun x => nomatch x), done⟩
/-- l.index(x): each item is asked with the answer e i -/
def LstX (prog : Program) (w : World) (A : Around) (E : Value → Shared → Prop) (l : Addr) (x : Value) (N : Nat) (e : Nat → Bool) (J : Shared → Prop) : Prop :=
  ∀ t, J t → ∃ (us : Array Value) (m1 : Nat), t.heap.get? l = some { cls := .type "list", data := .seq us m1 } ∧ us.size = N ∧ ∀ i (h1 : i < us.size), wpAny (model prog w) A.in1 (eqBool us[i] x) (fun c t' => c = e i ∧ J t') E t
theorem ixc_loop {l : Addr} {x : Value} {N j : Nat} {e : Nat → Bool} {J : Shared → Prop} {top : Int} (hl : LstX prog w A (fun er t' => R (.error er) t') l x N e J) (hj : j < N) (htop : (j : Int) < top) (yes : e j = true)
    (done : ∀ t, J t → R (.ok (.ret (.int j t.toks))) { t with toks := t.toks + 1 }) (k : Nat) :
    ∀ i : Nat, j - i = k → i ≤ j → (∀ m, i ≤ m → m < j → e m = false) → ∀ t, J t → wpAny (model prog w) A.in1 (Builtin.«list.index.loop» ⟨[.ref l, x, rawInt i, rawInt top], []⟩) (FinOf prog w A R) (fun er t' => R (.error er) t') t := by
  induction k with
  | zero =>
    intro i hk hi no t hJ
    obtain rfl : i = j := by omega
    obtain ⟨us, m1, g1, z1, turn⟩ := hl _ hJ
    have st := turn i (by omega)
    obtain ⟨x1, x2, x3, x4, x5⟩ := t
    wp_walk using wpAny_loadPart' g1
    have n1 : (if (i : Int) < top then us[((i : Nat) : Int).toNat]? else none) = some us[i] := by simp [htop]
    rw [n1]
    refine wpAny_bind (wpAny_mono st (fun c t2 z => ?_) fun _ _ z => z)
    obtain ⟨rfl, hJ2⟩ := z
    rw [yes]
    have fin := done _ hJ2
    obtain ⟨y1, y2, y3, y4, y5⟩ := t2
    wp_walk
    exact fin
  | succ k ih =>
    intro i hk hi no t hJ
    obtain ⟨us, m1, g1, z1, turn⟩ := hl _ hJ
    have st := turn i (by omega)
    have lt : (i : Int) < top := by omega
    obtain ⟨x1, x2, x3, x4, x5⟩ := t
    wp_walk using wpAny_loadPart' g1
    have n1 : (if (i : Int) < top then us[((i : Nat) : Int).toNat]? else none) = some us[i] := by simp [lt]
    have nc : ((i : Int) + 1) = ((i + 1 : Nat) : Int) := by omega
    rw [n1]
    refine wpAny_bind (wpAny_mono st (fun c t2 z => ?_) fun _ _ z => z)
    obtain ⟨rfl, hJ2⟩ := z
    rw [no i (Nat.le_refl _) (by omega)]
    have rest := ih (i + 1) (by omega) (by omega) (fun m h1 h2 => no m (by omega) h2) t2 hJ2
    obtain ⟨y1, y2, y3, y4, y5⟩ := t2
    wp_walk
    rw [nc]
    exact ⟨plainId_quiet plain_index_loop _, codeAny_builtin entry_index_loop (by
      rw [Around.under_plainId plain_index_loop _]
      exact rest)⟩
theorem ixc {l : Addr} {x : Value} {N j : Nat} {e : Nat → Bool} {J : Shared → Prop} {Q : Value → Shared → Prop} {t : Shared} (hl : LstX prog w A E l x N e J) (hj : j < N) (hs : (j : Int) < 2 ^ 63 - 1) (yes : e j = true) (no : ∀ m, m < j → e m = false)
    (done : ∀ t, J t → Q (.int j t.toks) { t with toks := t.toks + 1 }) (h0 : J t) : wpAny (model prog w) A (call (.builtin "list.index") [.ref l, x]) Q E t := by
  obtain ⟨us, m1, g1, z1, _⟩ := hl _ h0
  refine call_here F.slot_list_index ⟨_, g1, rfl⟩ F.entry_list_index (F.args_list_index_2 _ _) ?_
  have rest := ixc_loop (A := A) (R := wants Q E) (top := 2 ^ 63 - 1) hl hj hs yes (fun t' z => done t' z) _ 0 rfl (Nat.zero_le _) (fun m _ h2 => no m h2) t h0
  obtain ⟨x1, x2, x3, x4, x5⟩ := t
  wp_walk using wpAny_loadPart' g1
  have a1 : ((fun i : Int => if i < 0 then max 0 (i + (us.size : Int)) else i) ((none : Option Int).getD 0)) = ((0 : Nat) : Int) := by simp
  have a2 : ((fun i : Int => if i < 0 then max 0 (i + (us.size : Int)) else i) ((none : Option Int).getD (2 ^ 63 - 1))) = 2 ^ 63 - 1 := by simp
  rw [a1, a2]
  exact ⟨plainId_quiet plain_index_loop _, codeAny_builtin entry_index_loop (by
    rw [Around.under_plainId plain_index_loop _]
    exact rest)⟩
end
section
variable {X : Cx} {n : Nat} {D : Cmp}
def CLst (D : Cmp) : Cmp := fun x y H b => ∃ p q xs ys, x = .ref p ∧ y = .ref q ∧ H p = some (.lst xs) ∧ H q = some (.lst ys) ∧ ((xs.length ≠ ys.length ∧ b = false) ∨ ∃ e, xs.length = ys.length ∧ Each D xs ys H e ∧ b = (List.range xs.length).all e)
theorem rcB_lst (h : EqB X n D) : RcB X (n + 1) (CLst D) := by
  intro A pins s σ H x y u v b sb I rx ry d
  obtain ⟨p, q, xs, ys, rfl, rfl, hp, hq, hd⟩ := d
  cases rx
  cases ry
  rcases hd with ⟨hne, rfl⟩ | ⟨e, hlen, he, rfl⟩
  · obtain ⟨z, its, k1, r1, e1⟩ := I.hok p _ hp
    obtain ⟨z2, its2, k2, r2, e2⟩ := I.hok q _ hq
    exact eqc_len (us := its.toArray) (vs := its2.toArray) sb.room.units0 e1 e2 (by rw [List.size_toArray, List.size_toArray, ← r1.length, ← r2.length]; exact hne) ⟨rfl, I⟩
  · refine eqc (N := xs.length) (e := e) (J := fun t => Inv X pins σ H t) sb.room.units0 (fun t It => ?_) (fun t It => ⟨rfl, It⟩) I
    obtain ⟨z, its, k1, r1, e1⟩ := It.hok p _ hp
    obtain ⟨z2, its2, k2, r2, e2⟩ := It.hok q _ hq
    refine ⟨its.toArray, its2.toArray, k1, k2, e1, e2, by rw [List.size_toArray, ← r1.length], by rw [List.size_toArray, ← r2.length, ← hlen], fun i h1 h2 => ?_⟩
    rw [List.size_toArray] at h1 h2
    have g1 : i < xs.length := by rw [r1.length]; exact h1
    have g2 : i < ys.length := by rw [r2.length]; exact h2
    obtain ⟨u1, a1, b1⟩ := r1.get (List.getElem?_eq_getElem g1)
    obtain ⟨u2, a2, b2⟩ := r2.get (List.getElem?_eq_getElem g2)
    rw [List.getElem?_eq_getElem h1] at a1
    rw [List.getElem?_eq_getElem h2] at a2
    cases a1
    cases a2
    exact h A.in1 pins t σ H _ _ _ _ _ sb.in1 It b1 b2 (he i _ _ (List.getElem?_eq_getElem g1) (List.getElem?_eq_getElem g2))
/-- l.index(y) by own == -/
def rIndexB (D : Cmp) : V → List V → Hp → VK → Prop := fun x xs H Q => ∃ (a : Addr) (y : V) (its : List V) (e : Nat → Bool) (j : Nat), x = V.ref a ∧ xs = [y] ∧ H a = some (.lst its) ∧ (∀ (i : Nat) z, its[i]? = some z → D z y H (e i)) ∧ j < its.length ∧ its.length < sizeLine ∧ e j = true ∧ (∀ m, m < j → e m = false) ∧ Q (.int (j : Nat)) H
theorem mt_indexB (h : EqB X n D) (hr : Room (n + 1) X.A) : MtR X "list.index" (rIndexB D) := by
  intro pins s σ H x xs v us Q I rx rxs hq
  obtain ⟨a, y, its, e, j, rfl, rfl, ha, he, hj, hz, yes, no, k⟩ := hq
  cases rx
  cases rxs with
  | cons ry rt =>
    rename_i uy ut
    cases rt
    have sb : Sub X (n + 1) X.A := ⟨hr, rfl⟩
    have hsl : sizeLine = 16777216 := sizeLine_eq
    refine ixc (N := its.length) (e := e) (J := fun t => Inv X pins σ H t) (fun t It => ?_) hj (by omega) yes no (fun t It => ⟨.int j, H, It.tok _, ⟨_, rfl⟩, k⟩) I
    obtain ⟨z, vs, k1, r1, e1⟩ := It.hok a _ ha
    refine ⟨vs.toArray, k1, e1, by rw [List.size_toArray, ← r1.length], fun i h1 => ?_⟩
    rw [List.size_toArray] at h1
    have g1 : i < its.length := by rw [r1.length]; exact h1
    obtain ⟨u1, a1, b1⟩ := r1.get (List.getElem?_eq_getElem g1)
    rw [List.getElem?_eq_getElem h1] at a1
    cases a1
    exact h X.A.in1 pins t σ H _ _ _ _ _ sb.in1 It b1 ry (he i _ (List.getElem?_eq_getElem g1))
end
end AT

set_option maxHeartbeats 4000000
namespace AT
open PySem PySem.Spec PyProof.Rows L2
open AutoSeq1 (wpAny_loadPart')
/-! ### len(x) by an own __len__; == by an own __eq__ that answers NotImplemented -/
def rLenO (C : Addr) (sp : Sp) (E : XK) : List V → Hp → VK → Prop := fun xs H Q => ∃ p d fs, xs = [.ref p] ∧ H p = some (.ins C d fs) ∧ sp [.ref p] H (fun v H' => ∃ n : Nat, v = .int n ∧ n < 1000000 ∧ Q (.int n) H') E
section
variable {X : Cx} {C f : Addr} {k : Nat} {ps : List Str} {sp : Sp} {E : XK}
theorem call_lenO (M : Meth X.K C "__len__" f) (F : Ok X.prog X.w X.K X.mg X.base k f ps sp) (hr : Room (k + 1) X.A) (hx : Passes (L2.CX X.prog X.w) X E) : CallR X (.builtin "len") (rLenO C sp E) := by
  intro pins s σ H xs us Q I r h
  obtain ⟨p, d, fs, rfl, hp, hsp⟩ := h
  obtain ⟨u, rfl, rx⟩ := vals1 r
  cases rx
  obtain ⟨fd, F1, b, kp⟩ := F
  obtain ⟨mA, J, _⟩ := ins_get I.hok hp
  obtain ⟨od, J, _⟩ := J.look
  obtain ⟨m, hF⟩ := I.fr
  refine PySem.W.len_K hF I.ok.mod.kin J M.at_ M.fn (wpAny_mono (run_in (A := X.A.in1) (us := [.ref p]) (vs := [.ref p]) rfl F1 hr.in1 b hx I (.cons rfl .nil) hsp) (fun v s' z => ?_) fun _ _ z => z)
  obtain ⟨x', H', I', r', n, rfl, hn, q⟩ := z
  obtain ⟨t, rfl⟩ := r'
  exact ⟨⟨by omega, by omega⟩, .int n, H', I'.tok _, ⟨_, rfl⟩, q⟩
/-- a body that ends with NotImplemented -/
structure PN (X : Cx) (ss : List Stmt) (t : L2.St → Hp → (Hp → Prop) → Prop) : Prop where
  run : ∀ (pins : List (Addr × Obj)) (s : Shared) (σ : L2.St) (H : Hp) (Q : Hp → Prop), Inv X pins σ H s → t σ H Q → wpAny (model X.prog X.w) X.A (execs ss X.env) (fun fl s' => fl = .ret .notImplemented ∧ ∃ σ' H', Inv X pins σ' H' s' ∧ Q H') X.xe s
theorem pn_if {c : Expr} {tc : L2.TT} {rest : List Stmt} {p p1 pos : Pos} (hc : PT X c tc) (hg : Gl X "NotImplemented") (hm : X.mg "NotImplemented" = none) (hb : bootBuiltins "NotImplemented" = some .notImplemented) :
    PN X (.If c [.Return (some (.Name "NotImplemented" p)) p1] [] pos :: rest) (fun σ H Q => tc σ H fun b H1 => b = true ∧ Q H1) := by
  refine ⟨fun pins s σ H Q I h => ?_⟩
  refine wpAny_execs_cons (wpAny_If (thn (hc.run pins s σ H _ I h) fun d s1 ⟨H1, I1, e, q1⟩ => ?_))
  subst e
  exact wpAny_execs_cons (wpAny_Return_some (ld_blt I1 hg hm hb ⟨rfl, σ, H1, I1, q1⟩))
end
abbrev SpN := List V → Hp → (Hp → Prop) → Prop
def CRN (P : Program) (w : World) (outer : List Env) (H : Hp) (s : Shared) (Q : Hp → Prop) (r : Result) (s' : Shared) : Prop :=
  match r with
  | .ok (.ret u) => u = .notImplemented ∧ CE outer P w H s (fun _ H' => Q H') .none s'
  | .ok _ => False
  | .error e => L2.CX P w outer H s E0 e s'
def OkN (P : Program) (w : World) (K : PySem.W.Frag) (mg : Str → Option Value) (base : Heap) (k : Nat) (f : Addr) (ps : List Str) (sp : SpN) : Prop :=
  ∃ fd, (∀ vs H Q, sp vs H Q → vs.length = ps.length) ∧ (∀ (A : Around) (outer : List Env) (s : Shared) (H : Hp) (args : Args) (us : List Value) (vs : List V) (Q : Hp → Prop), Room k A → Env0 P w K mg base A outer s H → BindsTo s fd args (ps.zip us) → Vals vs us → sp vs H Q →
    codeAny (model P w) A (.call (.ref f) args) (CRN P w outer H s Q) s) ∧ Binds K fd ps []
theorem mk_okN {P : Program} {w : World} {K : PySem.W.Frag} {mg : Str → Option Value} {base : Heap} {x qual : Str} {st : Stmt} {kws : List (Str × V)} {f : Addr} {N ps : List Str} {k : Nat} {sp : SpN}
    (F : ∃ fd, FunD K x qual (defArgs st) (defBody st) (defScope st) [] kws f fd) (S : FnScope N ps (defScope st))
    (hb : ∀ (kV doc pm : Value) (an : Option Addr) (cdv ct : Value) (us : List Value), us.length = ps.length → bindArgs (PySem.W.fnOf x qual (defArgs st) (defBody st) (defScope st) .none kV doc pm an cdv ct) ⟨us, []⟩ = pure (ps.zip us))
    (len : ∀ vs H Q, sp vs H Q → vs.length = ps.length)
    (body : ∀ (cdv : Value) (A : Around) (outer : List Env) (s : Shared) (H : Hp) (vs : List V) (Q : Hp → Prop), Room k (A.deeper (envOfC qual (defScope st) s.heap.objs.size f cdv)) → sp vs H Q →
      ∃ t, PN (cxOf (L2.CX P w) P w K mg base N qual (defScope st) f cdv A outer s H E0) (defBody st) t ∧ t (start N vs) H Q) : OkN P w K mg base (k + 1) f ps sp := by
  obtain ⟨fd, F⟩ := F
  have F0 := F
  obtain ⟨oc, od, dV, kV, doc, pm, an, cdv, ct, osl, rfl, lk, hcd, _, _⟩ := F.ex
  refine ⟨_, len, fun A outer s H args us vs Q hr e0 hbd rv hsp => ?_, F0.bindsN hb⟩
  have KI : K.In s.heap := e0.mod.kin.keeps fun b o z => (e0.bs b o z).1
  have nl : s.heap.NoLimit := e0.mod.nolimit.keeps fun b o z => (e0.bs b o z).1
  have kinds : ∀ y ∈ ps.zip us, (defScope st).names.lookup y.1 = some .local ∨ ((defScope st).names.lookup y.1 = some .cell ∧ ((cellsFrom (s.heap.objs.size + 1) (defScope st).names []).lookup y.1).isSome = true) := by
    rintro ⟨n, v⟩ hy
    exact (S.par n (List.of_mem_zip hy).1).imp id fun q => ⟨q, PySem.W.cellsFrom_some _ _ _ (.inl q)⟩
  refine codeAny_call_function hr.depth (KI _ _ lk) rfl S.co S.gen rfl (PySem.W.codeRec_of KI hcd) (hbd _ _ _ _ ?_)
  refine wpAny_newFunctionEnv_cells S.kind kinds fun env he s1 ic => ?_
  subst he
  refine ⟨nl.keeps ic.toInCall.keep, codeAny_func ?_⟩
  obtain ⟨t, ht, hq⟩ := body cdv A outer s H vs Q (hr.deeper _) hsp
  have I1 := inv_start (CX := L2.CX P w) (E := E0) S hr.hd e0 (len _ _ _ hsp) rv ic
  refine wpAny_mono (ht.run [] s1 (start N vs) H _ I1 hq) (fun fl s' hfl => ?_) fun _ _ z => z
  obtain ⟨rfl, _, H', J, q⟩ := hfl
  exact ⟨rfl, .non, H', J.os, J.bare, J.base, J.hok, rfl, q⟩
section
variable {X : Cx} {C f : Addr} {k : Nat} {ps : List Str} {sp : SpN}
theorem run_inN {A : Around} {pins : List (Addr × Obj)} {σ : L2.St} {H : Hp} {s : Shared} {Q : Hp → Prop} {us : List Value} {vs : List V} (hA : A.frames = X.A.frames) (F : OkN X.prog X.w X.K X.mg X.base k f ps sp) (hr : Room k A)
    (hx : Passes (L2.CX X.prog X.w) X E0) (I : Inv X pins σ H s) (r : Vals vs us) (h : sp vs H Q) : wpAny (model X.prog X.w) A (call (.ref f) us) (fun u s' => u = .notImplemented ∧ ∃ H', Inv X pins σ H' s' ∧ Q H') X.xe s := by
  obtain ⟨fd, len, run, hb⟩ := F
  have hl : us.length = ps.length := by rw [← r.length]; exact len _ _ _ h
  have e := I.env0
  have e0 : Env0 X.prog X.w X.K X.mg X.base A X.stack s H := ⟨by rw [hA]; exact e.frames, e.mod, e.bs, e.bsz, e.funs, e.frf, e.hok, e.bare⟩
  have b := hb s us I.kIn (by simpa using hl)
  rw [List.append_nil] at b
  refine wpAny_call (codeAny_mono (run A X.stack s H ⟨us, []⟩ us vs Q hr e0 b r h) fun res s' hq => ?_)
  cases res with
  | error er => exact hx pins σ H s er s' I hq
  | ok fl =>
    cases fl with
    | ret u =>
      obtain ⟨rfl, hq⟩ := hq
      obtain ⟨v, H', I', _, q⟩ := I.after hq
      exact ⟨rfl, H', I', q⟩
    | _ => exact False.elim hq
/-- a list's own == declines what is no list -/
theorem list_declinesI {prog : Program} {w : World} {A : Around} {E : Value → Shared → Prop} {s : Shared} {l p : Addr} {T : Value} {Q : Value → Shared → Prop} (hl : s.TypeIs (.ref l) "list") (ty : PySem.W.Looks (model prog w) s.heap (typeOf (.ref p)) T)
    (sub : PySem.W.Looks (model prog w) s.heap (isSubtype T (.type "list")) false) (q : Q .notImplemented s) : wpAny (model prog w) A (call (.builtin "list.__eq__") [.ref l, .ref p]) Q E s := by
  refine wpAny_call_entry PySem.F.slot_list_eq hl PySem.F.entry_list_eq ?_ (PySem.F.args_list_eq_2 _ _)
  obtain ⟨hp, g, d, tk, os⟩ := s
  have isi : ∀ {A : Around} {E : Value → Shared → Prop} {R : Bool → Shared → Prop}, R false ⟨hp, g, d, tk, os⟩ → wpAny (model prog w) A (isInstance (.ref p) (.type "list")) R E ⟨hp, g, d, tk, os⟩ := fun h => wpAny_bind (ty.here (sub.here h))
  wp_walk using isi
  exact ⟨_, rfl, q⟩
/-- x == y where x's own __eq__ declines and y is a list -/
def rEqN (C : Addr) (sp : SpN) : R2 := fun x y H Q => ∃ p d fs l xs, x = .ref p ∧ y = .ref l ∧ H p = some (.ins C d fs) ∧ H l = some (.lst xs) ∧ sp [.ref p, .ref l] H (fun H' => H' = H ∧ Q (.bl false) H)
theorem op_eqN (O : EqC X.K C f) (hk : PySem.W.kitOne X.K (.ref C) (.type "list") = some false) (F : OkN X.prog X.w X.K X.mg X.base k f ps sp) (hr : Room k X.A) (hx : Passes (L2.CX X.prog X.w) X E0) : OpR X (compareOp .Eq) (rEqN C sp) := by
  intro pins s σ H x y v u Q I rx ry h
  obtain ⟨p, d, fs, l, xs, rfl, rfl, hp, hl, hsp⟩ := h
  cases rx
  cases ry
  have npl : p ≠ l := by rintro rfl; rw [hp] at hl; cases hl
  have at_ : ∀ {s1 : Shared}, Inv X pins σ H s1 → (∃ oo od, PySem.W.InstAt s1.heap p oo C od) ∧ ∃ ol, s1.heap.get? l = some ol ∧ ol.cls = .type "list" := fun {s1} I1 => by
    obtain ⟨mA, J, _⟩ := ins_get I1.hok hp
    obtain ⟨od, J, _⟩ := J.look
    obtain ⟨its, r', pl, _⟩ := I1.list (SqL.of hl)
    obtain ⟨ol, h1, h2, _⟩ := pl.isList
    exact ⟨⟨_, _, J⟩, ol, h1, h2⟩
  obtain ⟨⟨oo, od, J⟩, ol, hol, hcl⟩ := at_ I
  have tl : s.TypeIs (.ref l) "list" := ⟨ol, hol, hcl⟩
  have nl : (Value.ref C != Value.type "list") = true := rfl
  show wpAny _ _ (richCompare .Eq _ _) _ _ _
  simp only [richCompare, cmpInfo_Eq, oneThing_ref]
  refine wpAny_holding (wpAny_bind (wpAny_cRoomFor hr.units0 ?_))
  refine wpAny_bind (J.type.here (wpAny_bind (wpAny_typeOf tl ?_)))
  rw [if_pos nl]
  refine wpAny_bind ((PySem.W.looks_subIn I.kIn (O.sub "list" (by decide))).here ?_)
  simp only [Bool.false_eq_true, if_false, Bool.not_false, if_true]
  refine wpAny_bind (m := tryCompare (.ref p) _ (.ref l)) ?_
  unfold tryCompare
  refine wpAny_bind (PySem.W.ifBound_K I.kIn J O.find O.fn (wpAny_mono (run_inN (us := [.ref p, .ref l]) (vs := [.ref p, .ref l]) rfl F hr hx I (.cons rfl (.cons rfl .nil)) hsp) (fun v s1 z => ?_) fun _ _ z => z))
  obtain ⟨rfl, H', I1, rfl, q⟩ := z
  refine wpAny_pure ?_
  obtain ⟨⟨oo1, od1, J1⟩, ol1, hol1, hcl1⟩ := at_ I1
  have tl1 : s1.TypeIs (.ref l) "list" := ⟨ol1, hol1, hcl1⟩
  have kc : PySem.W.kitCls X.K (.ref C) (.type "list") = some false := by
    unfold PySem.W.kitOne at hk
    rw [if_neg (show ¬ (Value.ref C == Value.type "list") = true from fun z => by have z := eq_of_beq z; cases z)] at hk
    exact hk
  have lk := (PySem.W.kit_cls (M := model X.prog X.w) I1.kIn kc).2.2
  refine wpAny_bind (m := tryCompare (.ref l) _ (.ref p)) (wpAny_tryCompare_declines tl1 PySem.F.slot_list_eq (list_declinesI tl1 J1.type lk ⟨rfl, ?_⟩))
  refine wpAny_bind (wpAny_rule (wpAny_bind (SeqAt.wpAny_isSame_ref_other' npl J1.at_ hol1 (by rw [hcl1]; decide) (wpAny_pure ?_))))
  exact ⟨.bl false, _, I1, rfl, q⟩
end
end AT

set_option maxHeartbeats 4000000
namespace AT
open PySem PySem.Spec PyProof.Rows L2
/-- list(x) of a list or a tuple, with K named -/
def rListOf (K : PySem.W.Frag) : List V → Hp → VK → Prop := fun xs H Q => ∃ p ys, xs = [.ref p] ∧ (SqL K H p ys ∨ SqT K H p ys) ∧ ∀ l, H l = none → Q (.ref l) (upd H l (.lst ys))
theorem call_listK {X : Cx} : CallR X (.type "list") (rListOf X.K) := call_list_of
end AT

set_option maxHeartbeats 4000000
namespace AT
open PySem PySem.Spec PyProof.Rows L2
/-! ### a keyword-only parameter with a default that is an object -/
def kwdA (loc : PySem.W.Frag → Addr) (x : Str) (K : PySem.W.Frag) : Addr := match K.lookup (loc K) with
  | some ⟨_, _, .func u, _⟩ => (match u.kwdefaults with
    | .ref D => (match PySem.W.nsIn K D x with
      | some (some (.ref a)) => a
      | _ => 0)
    | _ => 0)
  | _ => 0
/-- a def with one keyword-only parameter at the end, called with it by name -/
def OkW (P : Program) (w : World) (K : PySem.W.Frag) (mg : Str → Option Value) (base : Heap) (k : Nat) (f : Addr) (ps : List Str) (n : Nat) (x : Str) (sp : Sp) : Prop :=
  ∃ fd, FnOk P w K mg base (L2.CX P w) k f fd ps sp ∧ KBn K fd ps n [x] (fun us ws => us ++ ws) (fun vs zs => vs ++ zs) ∧ PySem.W.keepIn K (.ref f) = true
theorem mk_okW {P : Program} {w : World} {K : PySem.W.Frag} {mg : Str → Option Value} {base : Heap} {x qual kw : Str} {st : Stmt} {kv : V} {f : Addr} {N ps : List Str} {k n : Nat} {sp : Sp}
    (F : ∃ fd, FunD K x qual (defArgs st) (defBody st) (defScope st) [] [(kw, kv)] f fd) (S : FnScope N ps (defScope st)) (hn : n + 1 = ps.length)
    (hb : ∀ (kV doc pm : Value) (an : Option Addr) (cdv ct : Value) (us : List Value) (u : Value), us.length = n → bindArgs (PySem.W.fnOf x qual (defArgs st) (defBody st) (defScope st) .none kV doc pm an cdv ct) ⟨us, [(kw, u)]⟩ = pure (ps.zip (us ++ [u])))
    (hd : ∀ (D : Addr) (doc pm : Value) (an : Option Addr) (cdv ct : Value) (us : List Value) (u : Value), us.length = n → KwChain D [(kw, u)] (bindArgs (PySem.W.fnOf x qual (defArgs st) (defBody st) (defScope st) .none (.ref D) doc pm an cdv ct) ⟨us, []⟩) (ps.zip (us ++ [u])))
    (len : ∀ vs H Q E, sp vs H Q E → vs.length = ps.length)
    (body : ∀ (cdv : Value) (A : Around) (outer : List Env) (s : Shared) (H : Hp) (vs : List V) (Q : VK) (E : XK), Room k (A.deeper (envOfC qual (defScope st) s.heap.objs.size f cdv)) → sp vs H Q E →
      ∃ t, PSs (cxOf (L2.CX P w) P w K mg base N qual (defScope st) f cdv A outer s H E) (defBody st) t ∧ t { nx := fun _ H' => Q .non H', rt := Q } (start N vs) H) :
    OkW P w K mg base (k + 1) f ps n kw sp ∧ OkD P w K mg base (k + 1) f ps [kv] sp := by
  obtain ⟨fd, F⟩ := F
  refine ⟨⟨fd, F.ok S len body, ?_, F.kp⟩, ?_⟩
  · obtain ⟨oc, od, dV, kV, doc, pm, an, cdv, ct, osl, rfl, lk, hcd, hD, hK⟩ := F.ex
    rcases hD with ⟨_, rfl⟩ | ⟨e, _⟩
    · refine ⟨fun s us ws X l1 l2 => ?_, fun r1 r2 => r1.append r2⟩
      obtain ⟨u, rfl⟩ := List.length_eq_one_iff.mp l2
      exact .of_eq (hb kV doc pm an cdv ct us u l1)
    · exact absurd rfl e
  · obtain ⟨ds, vd, b⟩ := F.binds0 (ps := ps) n (by simp) (by simpa using hn) (fun D doc pm an cdv ct us ks h1 h2 => by
      obtain ⟨u, rfl⟩ := List.length_eq_one_iff.mp h2
      exact hd D doc pm an cdv ct us u h1)
    exact ⟨fd, ds, F.ok S len body, vd, b, F.kp⟩
section
variable {X : Cx} {k n : Nat} {f : Addr} {ps : List Str} {sp : Sp} {dvs : List V} {E : XK} {x kw : Str} {p pos : Pos} {e : Expr} {es : List Expr} {kws : List Keyword} {t tk : TA}
/-- f(e, ..) with the defaults left out -/
theorem ok_callD (F : OkD X.prog X.w X.K X.mg X.base k f ps dvs sp) (hr : Room k X.A) (hg : Gl X x) (hm : X.mg x = some (.ref f)) (hx : Passes (L2.CX X.prog X.w) X E) (ha : PA X (e :: es) t)
    (hdb : (x == ("__debug__" : Str)) = false := by decide) (hst : starEach (e :: es) X.env = (false, eval e X.env) :: starEach es X.env := by rfl) (hns : (backTo pos (starEach es X.env)).any (·.1) = false := by rfl) :
    PE X (.Call (.Name x p) (e :: es) [] pos) (tCall sp dvs E t) := by
  obtain ⟨fd, ds, F1, vd, b, kp⟩ := F
  exact pe_call F1 hr hg hm kp b vd hx ha hdb hst hns
/-- f(e, .., kw = v) -/
theorem ok_callW (F : OkW X.prog X.w X.K X.mg X.base k f ps n kw sp) (hr : Room k X.A) (hg : Gl X x) (hm : X.mg x = some (.ref f)) (hx : Passes (L2.CX X.prog X.w) X E) (ha : PA X (e :: es) t) (hkw : PK X kws tk)
    (hall : (backToKw pos (keywordEach kws X.env)).all (·.1.isSome) = true := by rfl) (hks : (backToKw pos (keywordEach kws X.env)).filterMap (·.1) = [kw] := by rfl)
    (hdb : (x == ("__debug__" : Str)) = false := by decide) (he : starEach (e :: es) X.env = (false, eval e X.env) :: starEach es X.env := by rfl)
    (hpl : ((backTo pos (starEach (e :: es) X.env)).any (·.1) || (backToKw pos (keywordEach kws X.env)).any (·.1.isNone)) = false := by rfl) :
    PE X (.Call (.Name x p) (e :: es) kws pos) (tCallN n 1 sp (fun vs zs => vs ++ zs) E t tk) := by
  obtain ⟨fd, F1, b, kp⟩ := F
  exact pe_callN F1 hr hg hm kp b hx ha hkw hall hks hdb he hpl
def tCallNS (n m : Nat) (sp : Sp) (gV : List V → List V → List V) (E : L2.St → XK) (t tk : TA) : TE := fun σ H Q => t σ H fun vs H1 => tk σ H1 fun zs H2 => vs.length = n ∧ zs.length = m ∧ sp (gV vs zs) H2 Q (E σ)
/-- .. in a try's body -/
theorem ok_callWS {W : WX} (F : OkW X.prog X.w X.K X.mg X.base k f ps n kw sp) (hr : Room k X.A) (hg : Gl X x) (hm : X.mg x = some (.ref f)) (tkk : Takes X W) (ha : PA X (e :: es) t) (hkw : PK X kws tk)
    (hall : (backToKw pos (keywordEach kws X.env)).all (·.1.isSome) = true := by rfl) (hks : (backToKw pos (keywordEach kws X.env)).filterMap (·.1) = [kw] := by rfl)
    (hdb : (x == ("__debug__" : Str)) = false := by decide) (he : starEach (e :: es) X.env = (false, eval e X.env) :: starEach es X.env := by rfl)
    (hpl : ((backTo pos (starEach (e :: es) X.env)).any (·.1) || (backToKw pos (keywordEach kws X.env)).any (·.1.isNone)) = false := by rfl) :
    PE X (.Call (.Name x p) (e :: es) kws pos) (tCallNS n 1 sp (fun vs zs => vs ++ zs) (fun σ cls d H => W cls d σ H) t tk) := by
  obtain ⟨fd, F1, hb, kp⟩ := F
  refine ⟨fun pins s σ H Q I h => ?_⟩
  refine wpAny_Call_Name_kw (ld_glob I hg hm ?_ hdb)
  refine PySem.W.callWith_KW (h₀ := X.base) I.ok.mod.kin kp hall (thn (ha.run pos pins s σ H _ I h) fun us s1 ⟨vs, H1, I1, r, q⟩ => ?_) hpl he
  refine thn (hkw.run pos pins s1 σ H1 _ I1 q) fun ws s2 ⟨zs, H2, I2, rz, l1, l2, q2⟩ => ⟨I2.kIn, ?_⟩
  rw [hks]
  have r2 := hb.rel r rz
  refine wpAny_call (codeAny_mono (F1.run X.A X.stack s2 H2 ⟨us, [kw].zip ws⟩ (us ++ ws) (vs ++ zs) Q (fun cls d H => W cls d σ H) hr I2.env0 (hb.to s2 us ws I2.kIn (r.length.symm.trans l1) (rz.length.symm.trans l2)) r2 q2) fun res s' hq => ?_)
  cases res with
  | error er => exact passAt tkk σ pins H2 s2 er s' I2 hq
  | ok fl =>
    cases fl with
    | ret u => exact I2.after hq
    | next => exact False.elim hq
    | brk => exact False.elim hq
    | cont => exact False.elim hq
end
end AT

set_option maxHeartbeats 4000000
namespace AT
open PySem PySem.Spec PyProof.Rows L2
/-- a list's method inside a comprehension's block -/
theorem pe_bmK {X : Cx} {K : PySem.W.Frag} {T name id : String} {r : V → List V → Hp → VK → Prop} {o e : Expr} {es : List Expr} {to : TE} {t : TA} {apos cpos : Pos} (hK : X.K = K) (pa : PlainAttrs T) (slot : Slot T name id) (hty : typeOf (.builtin id) = pure (.type "method_descriptor")) (hm : MtR X id r) (ho : PE X o to) (ha : PA X (e :: es) t)
    (hbase : attributeBase o name X.env (eval o X.env) = eval o X.env := by rfl)
    (hfew : ((backTo cpos (starEach (e :: es) X.env)).all (fun x => !x.1) && (backToKw cpos (keywordEach [] X.env)).all (fun x => x.1.isSome)
      && decide ((e :: es).length + ([] : List Keyword).length + (if ([] : List Keyword).isEmpty then 0 else 1) < 30)) = true := by rfl)
    (hline : (apos.endLine == cpos.line) = true := by rfl) (hs : starEach (e :: es) X.env = (false, eval e X.env) :: starEach es X.env := by rfl) (hplain : (backTo cpos (starEach es X.env)).any (·.1) = false := by rfl) :
    PE X (.Call (.Attribute o name apos) (e :: es) [] cpos) (tBM K T r to t) := by
  subst hK
  exact pe_bm pa slot hty hm ho ha hbase hfew hline hs hplain
end AT

set_option maxHeartbeats 4000000
namespace AT
open PySem PySem.Spec PyProof.Rows L2
/-- a text times an int -/
def rMulS : R2 := fun x y H Q => ∃ z n, x = .str z ∧ y = .int n ∧ MulOk z n ∧ Q (.str (Txt.mul z n)) H
theorem op_mulS {X : Cx} : OpR X (binaryOp .Mult) rMulS := by
  intro pins s σ H x y v u Q I rx ry h
  obtain ⟨z, n, rfl, rfl, hok, q⟩ := h
  obtain ⟨t, rfl⟩ := rx
  obtain ⟨t', rfl⟩ := ry
  exact SB.mul hok fun t2 k => ⟨.str _, H, I.tok _, ⟨_, rfl⟩, q⟩
/-- f'..' in a comprehension's block: its reading has a name -/
def tJn (ts : List TE) : TE := fun σ H Q => tJs ts Str.empty σ H fun out H1 => Q (.str out) H1
theorem pe_joinedK {X : Cx} {v1 v2 : Expr} {rest : List Expr} {ts : List TE} {pos : Pos} (h : PJ X (v1 :: v2 :: rest) ts) : PE X (.JoinedStr (v1 :: v2 :: rest) pos) (tJn ts) := pe_joined h
end AT

set_option maxHeartbeats 4000000
namespace AT
open PySem PySem.Spec PyProof.Rows L2
/-! ### repr within an except suite -/
section
variable {X : Cx} {pins : List (Addr × Obj)} {σ : L2.St} {H : Hp} {s : Shared}
theorem call_reprU (hgd : X.A.guards = some []) (hun : X.A.units + 64 < cLine) (hK : ∃ o, X.K.lookup sysModules = some o ∧ o.cls = .type "dict") : CallR X (.builtin "repr") (rRepr X.K) := by
  intro pins s σ H xs us Q I r h
  obtain ⟨x, d, rfl, hd, hsh, hdp, hsz, q⟩ := h
  obtain ⟨u, rfl, ru⟩ := vals1 r
  obtain ⟨as, hR, hns⟩ := hd.reads hK I _ _ u ru
  cases hR with
  | none => exact PySem.P.repr_of_none ⟨.str _, H, I.tok _, ⟨_, rfl⟩, q⟩
  | bool b => exact PySem.P.repr_of_bool ⟨.str _, H, I.tok _, ⟨_, rfl⟩, q⟩
  | int i t => exact PySem.P.repr_of_int (of_decide_eq_true hsh) ⟨.str _, H, I.tok _, ⟨_, rfl⟩, q⟩
  | str y t => exact PySem.P.repr_of_str ⟨.str _, H, I.tok _, ⟨_, rfl⟩, q⟩ hsz
  | list h1 h2 h3 h4 =>
    exact repr_of_reads' (.list h1 h2 h3 h4) hsh (fun _ => hns) hgd (by omega) (fun _ _ z => z) (fun h' u' tk kp => ⟨.str _, H, I.kept kp, ⟨_, rfl⟩, q⟩) hsz
  | tuple h1 h2 h3 h4 =>
    exact repr_of_reads' (.tuple h1 h2 h3 h4) hsh (fun _ => hns) hgd (by omega) (fun _ _ z => z) (fun h' u' tk kp => ⟨.str _, H, I.kept kp, ⟨_, rfl⟩, q⟩) hsz
  | dict h1 h2 h3 h4 h5 =>
    exact repr_of_reads' (.dict h1 h2 h3 h4 h5) hsh (fun _ => hns) hgd (by omega) (fun _ _ z => z) (fun h' u' tk kp => ⟨.str _, H, I.kept kp, ⟨_, rfl⟩, q⟩) hsz
theorem call_reprS {a : Addr} {pn : List (Addr × Obj)} {k : Nat} (hgd : X.A.guards = some []) (hr : Room k X.A) (hK : ∃ o, X.K.lookup sysModules = some o ∧ o.cls = .type "dict") : CallR (X.suite a pn) (.builtin "repr") (rRepr X.K) :=
  call_reprU (X := X.suite a pn) hgd (by have := hr.units; show X.A.units + 64 < cLine; omega) hK
end
end AT

set_option maxHeartbeats 4000000
/-! == of lists with own == within, both answers; list.index by own == -/
namespace AT
open PySem PySem.Spec PyProof.Rows L2
section
open MeetsSeq MeetsSeq2 MeetsSeq3 SeqRoads2 GQ
open AutoSeq1 (wpAny_loadPart')
variable {prog : Program} {w : World} {A : Around} {R : Result → Shared → Prop} {E : Value → Shared → Prop}
theorem nec_loop {l b : Addr} {N : Nat} {e : Nat → Bool} {J : Shared → Prop} (hl : LstJ prog w A (fun er t' => R (.error er) t') l b N e J) (done : ∀ t, J t → R (.ok (.ret (.bool (!(List.range N).all e)))) t) (k : Nat) :
    ∀ i : Nat, N - i = k → i ≤ N → ((List.range N).take i).all e = true → ∀ t, J t → wpAny (model prog w) A.in1 (Builtin.«list.__eq__.loop» ⟨[.ref l, .ref b, rawInt i, rawInt 3], []⟩) (FinOf prog w A R) (fun er t' => R (.error er) t') t := by
  induction k with
  | zero =>
    intro i hk hi hall t hJ
    obtain ⟨us, vs, m1, m2, g1, g2, z1, z2, _⟩ := hl _ hJ
    have fin := done t hJ
    rw [List.take_of_length_le (by simp; omega)] at hall
    rw [hall] at fin
    obtain ⟨x1, x2, x3, x4, x5⟩ := t
    wp_walk using wpAny_loadPart' g1, wpAny_loadPart' g2
    have n1 : us[((i : Nat) : Int).toNat]? = none := by simp; omega
    have n2 : vs[((i : Nat) : Int).toNat]? = none := by simp; omega
    rw [n1, n2]
    wp_walk using wpAny_loadPart' g1, wpAny_loadPart' g2
    show R (.ok (.ret (.bool (us.size != vs.size)))) _
    rw [z1, z2]
    simpa using fin
  | succ k ih =>
    intro i hk hi hall t hJ
    obtain ⟨us, vs, m1, m2, g1, g2, z1, z2, turn⟩ := hl _ hJ
    have l1 : i < us.size := by omega
    have l2 : i < vs.size := by omega
    have st := turn i l1 l2
    obtain ⟨x1, x2, x3, x4, x5⟩ := t
    wp_walk using wpAny_loadPart' g1, wpAny_loadPart' g2
    have n1 : us[((i : Nat) : Int).toNat]? = some us[i] := by simp [l1]
    have n2 : vs[((i : Nat) : Int).toNat]? = some vs[i] := by simp [l2]
    have nc : ((i : Int) + 1) = ((i + 1 : Nat) : Int) := by omega
    rw [n1, n2]
    refine wpAny_bind (wpAny_mono st (fun c t2 z => ?_) fun _ _ z => z)
    obtain ⟨rfl, hJ2⟩ := z
    cases hc : e i with
    | true =>
      have rest := ih (i + 1) (by omega) (by omega) (by
        rw [List.take_succ, List.all_append, hall, Bool.true_and]
        have : i < N := by omega
        simp [this, hc]) t2 hJ2
      obtain ⟨y1, y2, y3, y4, y5⟩ := t2
      wp_walk
      rw [nc]
      exact ⟨plainId_quiet plain_eq_loop _, codeAny_builtin entry_eq_loop (by
        rw [Around.under_plainId plain_eq_loop _]
        exact rest)⟩
    | false =>
      have fin := done _ hJ2
      have hf : (List.range N).all e = false := by
        rw [List.all_eq_false]
        exact ⟨i, List.mem_range.mpr (by omega), by rw [hc]; decide⟩
      rw [hf] at fin
      obtain ⟨us2, vs2, m3, m4, g3, g4, z3, z4, _⟩ := hl _ hJ2
      obtain ⟨y1, y2, y3, y4, y5⟩ := t2
      have n3 : us2[((i : Nat) : Int).toNat]? = some us2[i] := by simp
      have n4 : vs2[((i : Nat) : Int).toNat]? = some vs2[i] := by simp
      wp_walk using wpAny_loadPart' g3, wpAny_loadPart' g4
      rw [n3, n4]
      wp_walk
      exact fin
theorem nec {l b : Addr} {N : Nat} {e : Nat → Bool} {J : Shared → Prop} {Q : Value → Shared → Prop} {t : Shared} (hu : A.units < cLine) (hl : LstJ prog w A E l b N e J) (done : ∀ t, J t → Q (.bool (!(List.range N).all e)) t) (h0 : J t) :
    wpAny (model prog w) A (richCompare .NotEq (.ref l) (.ref b)) Q E t := by
  obtain ⟨us, vs, m1, m2, g1, g2, z1, z2, _⟩ := hl _ h0
  refine wpAny_richCompare_same_room (op := .NotEq) ⟨_, g1, rfl⟩ ⟨_, g2, rfl⟩ F.slot_list_ne (call_here F.slot_list_ne ⟨_, g1, rfl⟩ F.entry_list_ne (F.args_list_ne_2 _ _) ?_) hu
  have rest := nec_loop (A := A) (R := wants (fun v t' => v ≠ .notImplemented ∧ Q v t') E) hl (fun t' z => ⟨(fun x => nomatch x), done t' z⟩) _ 0 rfl (Nat.zero_le _) rfl t h0
  obtain ⟨x1, x2, x3, x4, x5⟩ := t
  have sb := AutoSeq1.sub_list_list
  have hne : ¬ (us.size != vs.size) = true := by simp [z1, z2]
  wp_walk using wpAny_loadPart' g1, wpAny_loadPart' g2
  exact ⟨plainId_quiet plain_eq_loop _, codeAny_builtin entry_eq_loop (by
    rw [Around.under_plainId plain_eq_loop _]
    exact rest)⟩
/-- lists of unlike lengths -/
theorem nec_len {l b : Addr} {us vs : Array Value} {m1 m2 : Nat} {Q : Value → Shared → Prop} {t : Shared} (hu : A.units < cLine) (g1 : t.heap.get? l = some { cls := .type "list", data := .seq us m1 }) (g2 : t.heap.get? b = some { cls := .type "list", data := .seq vs m2 })
    (hz : us.size ≠ vs.size) (done : Q (.bool true) t) : wpAny (model prog w) A (richCompare .NotEq (.ref l) (.ref b)) Q E t := by
  refine wpAny_richCompare_same_room (op := .NotEq) ⟨_, g1, rfl⟩ ⟨_, g2, rfl⟩ F.slot_list_ne (call_here F.slot_list_ne ⟨_, g1, rfl⟩ F.entry_list_ne (F.args_list_ne_2 _ _) ?_) hu
  obtain ⟨x1, x2, x3, x4, x5⟩ := t
  have sb := AutoSeq1.sub_list_list
  have hne : (us.size != vs.size) = true := by simp [hz]
  wp_walk using wpAny_loadPart' g1, wpAny_loadPart' g2
  exact ⟨(fun x => nomatch x), done⟩
end
/-- x != y of lists with own == within, both answers -/
def rNeBb (D : Cmp) : R2 := fun x y H Q => ∃ b, CLst D x y H b ∧ Q (.bl !b) H
section
variable {X : Cx} {n : Nat} {D : Cmp}
theorem op_neBb (h : EqB X n D) (hr : Room (n + 1) X.A) : OpR X (compareOp .NotEq) (rNeBb D) := by
  intro pins s σ H x y v u Q I rx ry hq
  obtain ⟨b, ⟨p, q, xs, ys, rfl, rfl, hp, hq, hd⟩, k⟩ := hq
  cases rx
  cases ry
  have sb : Sub X (n + 1) X.A := ⟨hr, rfl⟩
  show wpAny (model X.prog X.w) X.A (richCompare .NotEq (.ref p) (.ref q)) (EP X pins σ Q) X.xe s
  rcases hd with ⟨hne, rfl⟩ | ⟨e, hlen, he, rfl⟩
  · obtain ⟨z, its, k1, r1, e1⟩ := I.hok p _ hp
    obtain ⟨z2, its2, k2, r2, e2⟩ := I.hok q _ hq
    exact nec_len (us := its.toArray) (vs := its2.toArray) hr.units0 e1 e2 (by rw [List.size_toArray, List.size_toArray, ← r1.length, ← r2.length]; exact hne) ⟨.bl true, H, I, rfl, k⟩
  · refine nec (N := xs.length) (e := e) (J := fun t => Inv X pins σ H t) hr.units0 (fun t It => ?_) (fun t It => ⟨.bl _, H, It, rfl, k⟩) I
    obtain ⟨z, its, k1, r1, e1⟩ := It.hok p _ hp
    obtain ⟨z2, its2, k2, r2, e2⟩ := It.hok q _ hq
    refine ⟨its.toArray, its2.toArray, k1, k2, e1, e2, by rw [List.size_toArray, ← r1.length], by rw [List.size_toArray, ← r2.length, ← hlen], fun i h1 h2 => ?_⟩
    rw [List.size_toArray] at h1 h2
    have g1 : i < xs.length := by rw [r1.length]; exact h1
    have g2 : i < ys.length := by rw [r2.length]; exact h2
    obtain ⟨u1, a1, b1⟩ := r1.get (List.getElem?_eq_getElem g1)
    obtain ⟨u2, a2, b2⟩ := r2.get (List.getElem?_eq_getElem g2)
    rw [List.getElem?_eq_getElem h1] at a1
    rw [List.getElem?_eq_getElem h2] at a2
    cases a1
    cases a2
    exact h X.A.in1 pins t σ H _ _ _ _ _ sb.in1 It b1 b2 (he i _ _ (List.getElem?_eq_getElem g1) (List.getElem?_eq_getElem g2))
end
end AT

set_option maxHeartbeats 4000000
/-! == of lists with own == within, both answers; list.index by own == -/
namespace AT
open PySem PySem.Spec PyProof.Rows L2
section
open MeetsSeq MeetsSeq2 MeetsSeq3 SeqRoads2 GQ
open AutoSeq1 (wpAny_loadPart')
variable {prog : Program} {w : World} {A : Around} {R : Result → Shared → Prop} {E : Value → Shared → Prop}
theorem rmc_loop {l : Addr} {x : Value} {N j : Nat} {e : Nat → Bool} {J : Shared → Prop} (hl : LstX prog w A (fun er t' => R (.error er) t') l x N e J) (hj : j < N) (hN : N ≤ sizeLine) (yes : e j = true)
    (done : ∀ t, J t → R (.ok (.ret .none)) { t with heap := t.heap.update l (Obj.mapSeq fun xs => xs.eraseIdxIfInBounds j) }) (k : Nat) :
    ∀ i : Nat, j - i = k → i ≤ j → (∀ m, i ≤ m → m < j → e m = false) → ∀ t, J t → wpAny (model prog w) A.in1 (Builtin.«list.remove.loop» ⟨[.ref l, x, rawInt i], []⟩) (FinOf prog w A R) (fun er t' => R (.error er) t') t := by
  induction k with
  | zero =>
    intro i hk hi no t hJ
    obtain rfl : i = j := by omega
    obtain ⟨us, m1, g1, z1, turn⟩ := hl _ hJ
    have hlt : i < us.size := by omega
    have st := turn i hlt
    obtain ⟨x1, x2, x3, x4, x5⟩ := t
    wp_walk using wpAny_loadPart' g1
    have n1 : us[((i : Nat) : Int).toNat]? = some us[i] := by simp [hlt]
    rw [n1]
    refine wpAny_bind (wpAny_mono st (fun c t2 z => ?_) fun _ _ z => z)
    obtain ⟨rfl, hJ2⟩ := z
    rw [yes]
    have fin := done _ hJ2
    obtain ⟨us2, m2, g2, z2, _⟩ := hl _ hJ2
    obtain ⟨y1, y2, y3, y4, y5⟩ := t2
    have hs1 : us2.size ≤ sizeLine := by omega
    have hz' : (us2.eraseIdxIfInBounds i).size ≤ sizeLine + 1 := Nat.le_trans (size_erased us2 _) (Nat.le_succ_of_le hs1)
    wp_walk using (wpAny_updateSeq g2 rfl (hz := hs1) (_hz' := hz')), wpAny_loadPart' g2
    simpa using fin
  | succ k ih =>
    intro i hk hi no t hJ
    obtain ⟨us, m1, g1, z1, turn⟩ := hl _ hJ
    have hlt : i < us.size := by omega
    have st := turn i hlt
    obtain ⟨x1, x2, x3, x4, x5⟩ := t
    wp_walk using wpAny_loadPart' g1
    have n1 : us[((i : Nat) : Int).toNat]? = some us[i] := by simp [hlt]
    have nc : ((i : Int) + 1) = ((i + 1 : Nat) : Int) := by omega
    rw [n1]
    refine wpAny_bind (wpAny_mono st (fun c t2 z => ?_) fun _ _ z => z)
    obtain ⟨rfl, hJ2⟩ := z
    rw [no i (Nat.le_refl _) (by omega)]
    have rest := ih (i + 1) (by omega) (by omega) (fun m h1 h2 => no m (by omega) h2) t2 hJ2
    obtain ⟨y1, y2, y3, y4, y5⟩ := t2
    wp_walk
    rw [nc]
    exact ⟨plainId_quiet plain_remove_loop _, codeAny_builtin entry_remove_loop (by
      rw [Around.under_plainId plain_remove_loop _]
      exact rest)⟩
theorem rmc {l : Addr} {x : Value} {N j : Nat} {e : Nat → Bool} {J : Shared → Prop} {Q : Value → Shared → Prop} {t : Shared} (hl : LstX prog w A E l x N e J) (hj : j < N) (hN : N ≤ sizeLine) (yes : e j = true) (no : ∀ m, m < j → e m = false)
    (done : ∀ t, J t → Q .none { t with heap := t.heap.update l (Obj.mapSeq fun xs => xs.eraseIdxIfInBounds j) }) (h0 : J t) : wpAny (model prog w) A (call (.builtin "list.remove") [.ref l, x]) Q E t := by
  obtain ⟨us, m1, g1, z1, _⟩ := hl _ h0
  refine call_here F.slot_list_remove ⟨_, g1, rfl⟩ F.entry_list_remove (F.args_list_remove_2 _ _) ?_
  have rest := rmc_loop (A := A) (R := wants Q E) hl hj hN yes (fun t' z => done t' z) _ 0 rfl (Nat.zero_le _) (fun m _ h2 => no m h2) t h0
  obtain ⟨x1, x2, x3, x4, x5⟩ := t
  wp_walk using wpAny_loadPart' g1
  exact ⟨plainId_quiet plain_remove_loop _, codeAny_builtin entry_remove_loop (by
    rw [Around.under_plainId plain_remove_loop _]
    exact rest)⟩
end
/-- l.remove(y) by own ==, where it is there -/
def rRemoveB (D : Cmp) : V → List V → Hp → VK → Prop := fun x xs H Q => ∃ (a : Addr) (y : V) (its : List V) (e : Nat → Bool) (j : Nat), x = V.ref a ∧ xs = [y] ∧ H a = some (.lst its) ∧ (∀ (i : Nat) z, its[i]? = some z → D z y H (e i)) ∧ j < its.length ∧ its.length < sizeLine ∧ e j = true ∧ (∀ m, m < j → e m = false) ∧ Q .non (upd H a (.lst (its.eraseIdx j)))
section
variable {X : Cx} {n : Nat} {D : Cmp}
theorem mt_removeB (h : EqB X n D) (hr : Room (n + 1) X.A) : MtR X "list.remove" (rRemoveB D) := by
  intro pins s σ H x xs v us Q I rx rxs hq
  obtain ⟨a, y, its, e, j, rfl, rfl, ha, he, hj, hz, yes, no, k⟩ := hq
  cases rx
  cases rxs with
  | cons ry rt =>
    rename_i uy ut
    cases rt
    have sb : Sub X (n + 1) X.A := ⟨hr, rfl⟩
    refine rmc (N := its.length) (e := e) (J := fun t => Inv X pins σ H t) (fun t It => ?_) hj (by omega) yes no (fun t It => ?_) I
    · obtain ⟨z, vs, k1, r1, e1⟩ := It.hok a _ ha
      refine ⟨vs.toArray, k1, e1, by rw [List.size_toArray, ← r1.length], fun i h1 => ?_⟩
      rw [List.size_toArray] at h1
      have g1 : i < its.length := by rw [r1.length]; exact h1
      obtain ⟨u1, a1, b1⟩ := r1.get (List.getElem?_eq_getElem g1)
      rw [List.getElem?_eq_getElem h1] at a1
      cases a1
      exact h X.A.in1 pins t σ H _ _ _ _ _ sb.in1 It b1 ry (he i _ (List.getElem?_eq_getElem g1))
    · obtain ⟨z, vs, k1, r1, e1⟩ := It.hok a _ ha
      refine ⟨.non, _, It.lset (its' := vs.eraseIdx j) ha e1 ?_ (r1.eraseIdx j) ?_, rfl, k⟩
      · show vs.toArray.eraseIdxIfInBounds j = (vs.eraseIdx j).toArray
        rw [List.eraseIdxIfInBounds_toArray]
      · have := List.length_eraseIdx_le its j
        omega
end
end AT

set_option maxHeartbeats 4000000
namespace AT
open PySem PySem.Spec PyProof.Rows L2
def wMa1 (K : PySem.W.Frag) (D : Ends) (c : Value) (i : Nat) (ts : Addr → Value → Option Addr → TS) : WX := fun cls d σ H => PySem.W.exmOne K cls c = some true ∧
  ∀ a, H a = none → ts a cls d { nx := fun σ' H' => D.nx (σ'.set i none) H', rt := D.rt, bk := fun σ' H' => D.bk (σ'.set i none) H', ct := fun σ' H' => D.ct (σ'.set i none) H' } (σ.set i (some (.ref a))) H
section
variable {X : Cx} {bd : List Stmt} {hds : List ExceptHandler} {pos : Pos} {tb : WX → TS} {x n : Str} {c : Value} {i : Nat} {ts : Addr → Value → Option Addr → TS} {s1 : Stmt} {ss : List Stmt} {q1 q2 : Pos}
/-- a try whose first clause takes what is raised: the others are never reached -/
theorem ps_try_m1 (stk : X.stack = X.env :: X.outer) (frm : X.env.frame = some X.env.locals)
    (hbd : ∀ (W : WX) (pn : List (Addr × Obj)) (xe : Value → Shared → Prop), Takes (X.tr pn xe) W → PassesOwn (model X.prog X.w) X.A X.env xe → PSs (X.tr pn xe) bd (tb W))
    (hN : X.N.Nodup) (hi : X.N[i]? = some n) (hl : X.env.kindOf n = some .local) (hc : Names X x c)
    (hsu : ∀ (a : Addr) (oe : Obj) (cls : Value) (d : Option Addr) (pn : List (Addr × Obj)), Zc cls d oe → (∃ vs, oe.data = .fields vs) → PSs (X.suite a ((a, oe) :: pn)) (s1 :: ss) (ts a cls d)) :
    PS X (.Try bd (.ExceptHandler (some (.Name x q1)) (some n) (s1 :: ss) q2 :: hds) [] [] pos) (fun D σ H => tb (wMa1 X.K D c i ts) D σ H) := by
  constructor
  intro pins s σ H D I h
  have oki := I.ok
  have frs2 : X.A.frames = some (X.env :: X.outer) := by rw [oki.frames, stk]
  refine wpAny_Try_except ?_
  refine wpAny_mono ((hbd (wMa1 X.K D c i ts) (X.pn ++ pins) (fun ev t1 => wpAny (model X.prog X.w) X.A (noteFrame ev X.env) (fun _ t2 => wpAny (model X.prog X.w) X.A (setFlight ev none) (fun _ t3 =>
    wpAny (model X.prog X.w) X.A (handleBy ev X.env (.ExceptHandler (some (.Name x q1)) (some n) (s1 :: ss) q2 :: hds)) (SP X pins D) X.xe t3) X.xe t2) X.xe t1) (fun u t xx => ?_) PassesOwn.looking).run [] s σ H D (I.toTry _) h) (fun fl t1 hfl => ?_) (fun _ _ z => z)
  · obtain ⟨a, G, tI, pp, σ1, H1, cls, d, rfl, Jt, nbh, upI, sk, na, eos, abr, wsh⟩ := xx
    have J1 : Inv X pins σ1 H1 tI := Jt.ofTry oki
    have sk2 : Sky G (X.env :: X.outer) a (Zc cls d) X.env.locals t.heap := by rw [← stk]; exact sk
    show wpAny (model X.prog X.w) X.A (noteFrame (.ref a) X.env) _ _ _
    refine Sky.land Zc.steady frs2 frm sk2 fun g3 fy3 ut3 => ?_
    have J3 : Inv X pins σ1 H1 { t with heap := g3 } := J1.landed nbh fy3.1 (upI.trans ut3) eos abr
    obtain ⟨ox3, vx3, gx3, zx3, dx3⟩ := fy3.there
    have nofr : a ∉ frs (X.env :: X.outer) := fun hm => by
      obtain ⟨_, o', e', hnf⟩ := fy3.2.2.1.mem hm
      rw [gx3] at e'
      cases e'
      exact hnf _ dx3
    have neL : a ≠ X.env.locals := fun z => nofr (List.mem_filterMap.mpr ⟨X.env, List.mem_cons_self, by rw [frm, z]⟩)
    have neF : a ∉ X.fs := fun hm => by
      obtain ⟨ev, hev, q⟩ := List.mem_filterMap.mp hm
      exact nofr (List.mem_filterMap.mpr ⟨ev, List.mem_cons_of_mem _ hev, q⟩)
    have Sx := J3.suite gx3 dx3 na neL neF
    obtain ⟨hb1, yes⟩ := wsh
    refine wpAny_handleBy_cons (codeAny_handlers_test ?_) (by intro q; cases q)
    have LT : PySem.W.Looks (model X.prog X.w) g3 (typeOf (.ref a)) cls := fun _ _ _ _ k q => wpAny_typeOf_ref (k _ _ gx3) (by rw [zx3.1]; exact q)
    have LM := PySem.W.exm_one (M := model X.prog X.w) (J3.kIn) LT hb1
    have tst : ∀ {Q : Value → Shared → Prop} {E : Value → Shared → Prop}, Q c { t with heap := g3 } → wpAny (model X.prog X.w) (X.A.mark (some (.ref a))) (eval (.Name x q1) X.env) Q E { t with heap := g3 } := fun {Q E} q => by
      obtain ⟨hg, hdbg, hm | ⟨hm, hv, hnn⟩⟩ := hc
      · exact ld_glob (X := X.suite a ((a, ox3) :: (X.pn ++ pins))) Sx hg hm q hdbg
      · exact ld_blt (X := X.suite a ((a, ox3) :: (X.pn ++ pins))) Sx hg hm hv q hnn hdbg
    refine tst (LM.here ?_)
    refine codeAny_handlers_suite_as ?_
    refine HandSPX.lands_againZ fy3 fun g4 fy4 ut4 => ?_
    have J4 : Inv X pins σ1 H1 { t with heap := g4 } := J1.landed nbh fy4.1 ((upI.trans ut3).trans ut4) eos abr
    obtain ⟨ox4, vx4, gx4, zx4, dx4⟩ := fy4.there
    have Sy := J4.suite gx4 dx4 na neL neF
    refine store_ok (X := X.suite a ((a, ox4) :: (X.pn ++ pins))) (v := .ref a) Sy hN hi (.inl hl) rfl (fun t5 S5 => ?_) (.inr hl)
    refine wpAny_mono ((hsu a ox4 cls d (X.pn ++ pins) zx4 ⟨_, dx4⟩).run [] t5 _ H1 _ S5 (yes a na)) (fun fl t6 hfl => ?_) (fun _ _ z => False.elim z)
    have gone : ∀ {σ6 : L2.St} {H6 : Hp} {Q : Shared → Prop}, Inv (X.suite a ((a, ox4) :: (X.pn ++ pins))) [] σ6 H6 t6 → (∀ t7, Inv X pins (σ6.set i none) H6 t7 → Q t7) →
        wpAny (model X.prog X.w) X.A (do bindName X.env n .none; unbindBehindTheSuite X.env n q2) (fun _ t7 => Q t7) X.xe t6 := fun {_ _ _} S6 hq => gone_ok (S6.unsuite oki) hN hi hl hq
    cases fl with
    | ret u =>
      obtain ⟨_, _, _, S6, rr, qq⟩ := hfl
      exact gone S6 fun _ J7 => ⟨_, _, _, J7, rr, qq⟩
    | _ =>
      obtain ⟨_, _, S6, qq⟩ := hfl
      exact gone S6 fun _ J7 => ⟨_, _, J7, qq⟩
  · cases fl with
    | next =>
      obtain ⟨_, _, Jn, q⟩ := hfl
      exact wpAny_execs_nil ⟨_, _, Jn.ofTry oki, q⟩
    | ret u =>
      obtain ⟨_, _, _, Jn, rr, q⟩ := hfl
      exact ⟨_, _, _, Jn.ofTry oki, rr, q⟩
    | _ =>
      obtain ⟨_, _, Jn, q⟩ := hfl
      exact ⟨_, _, Jn.ofTry oki, q⟩
end
end AT

set_option maxHeartbeats 4000000
namespace AT
open PySem PySem.Spec PyProof.Rows L2
open AutoSeq1 (wpAny_loadPart')
theorem str_declinesN (z : Str) (u : Tok) (l : Addr) (o : Obj) (es : Array DictEntry) (n : Nat) :
    Meets (Builtin.«str.__ne__» ⟨[.str z u, .ref l], []⟩) (fun _ R s => s.heap.get? l = some o ∧ o.data = .dict es n ∧ R (.ok (.ret .notImplemented)) s) :=
  .of_wp fun prog w A R s h => by
    obtain ⟨hp, g, d, tk, os⟩ := s
    obtain ⟨hl, hc, h⟩ := h
    wp_walk using wpAny_loadPart' hl, wpAny_load hl
    rw [hc]
    wp_walk
    exact ⟨_, rfl, h⟩
section
variable {prog : Program} {w : World} {A : Around} {E : Value → Shared → Prop} {s : Shared}
theorem dict_declinesN {a : Addr} {z : Str} {u : Tok} {Q : Value → Shared → Prop} (ha : s.TypeIs (.ref a) "dict") (q : Q .notImplemented s) : wpAny (model prog w) A (call (.builtin "dict.__ne__") [.ref a, .str z u]) Q E s := by
  refine wpAny_call_entry PySem.F.slot_dict_ne ha PySem.F.entry_dict_ne ?_ (PySem.F.args_dict_ne_2 _ _)
  show wpAny _ _ (Builtin.Dict.dictSlotArgs "__ne__" ⟨[.ref a, .str z u], []⟩ >>= _) _ _ s
  refine wpAny_bind ?_
  unfold Builtin.Dict.dictSlotArgs
  refine wpAny_bind (wpAny_notOrdered_dict ha ?_)
  show wpAny _ _ (pure (Value.ref a, Value.str z u)) _ _ s
  refine wpAny_pure ?_
  refine wpAny_bind (wpAny_isInstance (T := "str") (typeIs_str s z u) PySem.F.sub_str_dict ?_)
  simp only [Bool.not_false, if_true]
  refine wpAny_bind (wpAny_rule ?_)
  exact wpAny_pure ⟨_, rfl, q⟩
end
/-- an empty dict is unlike a text -/
theorem ne_emp {X : Cx} {pins : List (Addr × Obj)} {σ : L2.St} {H : Hp} {s : Shared} {a : Addr} {z : Str} {u : Tok} {Q : Value → Shared → Prop} {E : Value → Shared → Prop} (I : Inv X pins σ H s) (hu : X.A.units < cLine) (he : H a = some (.dK [])) (q : Q (.bool true) s) :
    wpAny (model X.prog X.w) X.A (compareOp .NotEq (.ref a) (.str z u)) Q E s := by
  obtain ⟨_, hs, vs, kv, o, es, ep, ho, hx, hda, _, hp, _⟩ := I.hok _ _ he
  show wpAny _ _ (richCompare .NotEq _ _) _ _ _
  have ty : s.TypeIs (.ref a) "dict" := ⟨o, ho, hx.1⟩
  exact SeqAt.rc_ne_decline_or (k := false) ty (typeIs_str s z u) (by decide) PySem.F.sub_str_dict PySem.F.slot_dict_ne PySem.F.slot_str_ne_refl
    (fun _ hq => dict_declinesN ty hq)
    (fun _ hq => call_meets PySem.F.slot_str_ne_refl (typeIs_str s z u) PySem.F.entry_str_ne (PySem.F.args_str_ne_2 _ _) (str_declinesN z u a o es ep) ⟨ho, hda, hq⟩)
    (fun _ hq => wpAny_of_eq (rfl : isSame (.ref a) (.str z u) = pure false) hq) (.inr hu) q
/-- x != z of data x, and of an empty dict, and a text z -/
def rNeZ (K : PySem.W.Frag) : R2 := fun x y H Q => ∃ z, y = .str z ∧ ((∃ d, Dp K H x d ∧ SeqAt.shaped d = true ∧ PyData.strOk z = true ∧ Q (.bl (!PyData.eqv d (.str z))) H) ∨ ∃ a, x = .ref a ∧ H a = some (.dK []) ∧ Q (.bl true) H)
theorem op_neZ {X : Cx} (hu : X.A.units + 64 < cLine) : OpR X (compareOp .NotEq) (rNeZ X.K) := by
  intro pins s σ H x y v u Q I rx ry h
  obtain ⟨z, rfl, ⟨d, hd, sd, so, q⟩ | ⟨a, rfl, he, q⟩⟩ := h
  · refine op_neD hu pins s σ H x (.str z) v u Q I rx ry ⟨d, _, hd, .str z, sd, ?_, q⟩
    show (PyData.strOk z && decide (0 ≤ 64)) = true
    rw [so]
    rfl
  · cases rx
    obtain ⟨t, rfl⟩ := ry
    exact ne_emp I (by omega) he ⟨.bl true, H, I, rfl, q⟩
end AT

set_option maxHeartbeats 4000000
namespace AT
open PySem PySem.Spec PyProof.Rows L2
open AutoSeq1 (wpAny_loadPart')
theorem int_declinesN (z : Int) (u : Tok) (l : Addr) (o : Obj) (es : Array DictEntry) (n : Nat) :
    Meets (Builtin.«int.__ne__» ⟨[.int z u, .ref l], []⟩) (fun _ R s => s.heap.get? l = some o ∧ o.data = .dict es n ∧ R (.ok (.ret .notImplemented)) s) :=
  .of_wp fun prog w A R s h => by
    obtain ⟨hp, g, d, tk, os⟩ := s
    obtain ⟨hl, hc, h⟩ := h
    wp_walk using wpAny_loadPart' hl, wpAny_load hl
    rw [hc]
    wp_walk
    exact ⟨_, rfl, h⟩
section
variable {prog : Program} {w : World} {A : Around} {E : Value → Shared → Prop} {s : Shared}
theorem dict_declinesNI {a : Addr} {z : Int} {u : Tok} {Q : Value → Shared → Prop} (ha : s.TypeIs (.ref a) "dict") (q : Q .notImplemented s) : wpAny (model prog w) A (call (.builtin "dict.__ne__") [.ref a, .int z u]) Q E s := by
  refine wpAny_call_entry PySem.F.slot_dict_ne ha PySem.F.entry_dict_ne ?_ (PySem.F.args_dict_ne_2 _ _)
  show wpAny _ _ (Builtin.Dict.dictSlotArgs "__ne__" ⟨[.ref a, .int z u], []⟩ >>= _) _ _ s
  refine wpAny_bind ?_
  unfold Builtin.Dict.dictSlotArgs
  refine wpAny_bind (wpAny_notOrdered_dict ha ?_)
  show wpAny _ _ (pure (Value.ref a, Value.int z u)) _ _ s
  refine wpAny_pure ?_
  refine wpAny_bind (wpAny_isInstance (T := "int") (typeIs_int s z u) PySem.F.sub_int_dict ?_)
  simp only [Bool.not_false, if_true]
  refine wpAny_bind (wpAny_rule ?_)
  exact wpAny_pure ⟨_, rfl, q⟩
end
/-- an empty dict is unlike a text -/
theorem ne_empI {X : Cx} {pins : List (Addr × Obj)} {σ : L2.St} {H : Hp} {s : Shared} {a : Addr} {z : Int} {u : Tok} {Q : Value → Shared → Prop} {E : Value → Shared → Prop} (I : Inv X pins σ H s) (hu : X.A.units < cLine) (he : H a = some (.dK [])) (q : Q (.bool true) s) :
    wpAny (model X.prog X.w) X.A (compareOp .NotEq (.ref a) (.int z u)) Q E s := by
  obtain ⟨_, hs, vs, kv, o, es, ep, ho, hx, hda, _, hp, _⟩ := I.hok _ _ he
  show wpAny _ _ (richCompare .NotEq _ _) _ _ _
  have ty : s.TypeIs (.ref a) "dict" := ⟨o, ho, hx.1⟩
  exact SeqAt.rc_ne_decline_or (k := false) ty (typeIs_int s z u) (by decide) PySem.F.sub_int_dict PySem.F.slot_dict_ne PySem.F.slot_int_ne_refl
    (fun _ hq => dict_declinesNI ty hq)
    (fun _ hq => call_meets PySem.F.slot_int_ne_refl (typeIs_int s z u) PySem.F.entry_int_ne (PySem.F.args_int_ne_2 _ _) (int_declinesN z u a o es ep) ⟨ho, hda, hq⟩)
    (fun _ hq => wpAny_of_eq (rfl : isSame (.ref a) (.int z u) = pure false) hq) (.inr hu) q
/-- x != i of data x, and of an empty dict, and an int i -/
def rNeJ (K : PySem.W.Frag) : R2 := fun x y H Q => ∃ i, y = .int i ∧ ((∃ d, Dp K H x d ∧ SeqAt.shaped d = true ∧ Q (.bl (!PyData.eqv d (.int i))) H) ∨ ∃ a, x = .ref a ∧ H a = some (.dK []) ∧ Q (.bl true) H)
theorem op_neJ {X : Cx} (hu : X.A.units + 64 < cLine) : OpR X (compareOp .NotEq) (rNeJ X.K) := by
  intro pins s σ H x y v u Q I rx ry h
  obtain ⟨i, rfl, ⟨d, hd, sd, q⟩ | ⟨a, rfl, he, q⟩⟩ := h
  · exact op_neD hu pins s σ H x (.int i) v u Q I rx ry ⟨d, _, hd, .int i, sd, rfl, q⟩
  · cases rx
    obtain ⟨t, rfl⟩ := ry
    exact ne_empI I (by omega) he ⟨.bl true, H, I, rfl, q⟩
end AT

set_option maxHeartbeats 4000000
/-! instances whose own __eq__ declines, compared with None; `None in list`; lists with such items -/
namespace AT
open PySem PySem.Spec PyProof.Rows L2
section
variable {X : Cx} {C f : Addr} {k : Nat} {ps : List Str} {sp : SpN}
/-- an instance of the class C against None -/
def CNn (C : Addr) (D : Addr → Hp → Prop) : Cmp := fun x y H b => ∃ p d fs, x = .ref p ∧ y = .non ∧ H p = some (.ins C d fs) ∧ D p H ∧ b = false
theorem rcB_nn {D : Addr → Hp → Prop} (O : EqC X.K C f) (Fo : OkN X.prog X.w X.K X.mg X.base k f ps sp) (hx : Passes (L2.CX X.prog X.w) X E0) (hsp : ∀ p H, D p H → sp [.ref p, .non] H (fun H' => H' = H)) : RcB X k (CNn C D) := by
  intro A pins s σ H x y u v b sb I rx ry d
  obtain ⟨p, d0, fs, rfl, rfl, hp, hD, rfl⟩ := d
  cases rx
  cases ry
  have at_ : ∀ {s1 : Shared}, Inv X pins σ H s1 → ∃ oo od, PySem.W.InstAt s1.heap p oo C od := fun {s1} I1 => by
    obtain ⟨mA, J, _⟩ := ins_get I1.hok hp
    obtain ⟨od, J, _⟩ := J.look
    exact ⟨_, _, J⟩
  obtain ⟨oo, od, J⟩ := at_ I
  have nl : (Value.ref C != Value.type "NoneType") = true := rfl
  simp only [richCompare, cmpInfo_Eq, show oneThing? CmpOp.Eq (.ref p) .none = none from rfl]
  refine wpAny_holding (wpAny_bind (wpAny_cRoomFor sb.room.units0 ?_))
  refine wpAny_bind (J.type.here (wpAny_bind (wpAny_typeOf (T := "NoneType") rfl ?_)))
  rw [if_pos nl]
  refine wpAny_bind ((PySem.W.looks_subIn I.kIn (O.sub "NoneType" (by decide))).here ?_)
  simp only [Bool.false_eq_true, if_false, Bool.not_false, if_true]
  refine wpAny_bind (m := tryCompare (.ref p) _ .none) ?_
  unfold tryCompare
  refine wpAny_bind (PySem.W.ifBound_K I.kIn J O.find O.fn (wpAny_mono (run_inN (us := [.ref p, .none]) (vs := [.ref p, .non]) sb.fr Fo sb.room hx I (.cons rfl (.cons rfl .nil)) (hsp p H hD)) (fun v s1 z => ?_) fun _ _ z => z))
  obtain ⟨rfl, H', I1, rfl⟩ := z
  refine wpAny_pure ?_
  refine wpAny_bind (m := tryCompare .none _ (.ref p)) (wpAny_tryCompare_declines (T := "NoneType") rfl F.slot_NoneType_eq (call_gives F.slot_NoneType_eq rfl F.entry_NoneType_eq (F.args_NoneType_eq_2 _ _) (SeqAt.NoneType___eq___none_ref_0 p) (show _ ∧ _ from ⟨rfl, ?_⟩)))
  refine wpAny_bind (wpAny_rule (wpAny_bind (wpAny_isSame_plain rfl (wpAny_pure ⟨rfl, I1⟩))))
/-- an object and None, within == -/
theorem eqB_nn {D : Addr → Hp → Prop} (O : EqC X.K C f) (Fo : OkN X.prog X.w X.K X.mg X.base k f ps sp) (hx : Passes (L2.CX X.prog X.w) X E0) (hsp : ∀ p H, D p H → sp [.ref p, .non] H (fun H' => H' = H)) : EqB X k (CNn C D) := by
  intro A pins s σ H x y u v b sb I rx ry d
  have rc := rcB_nn O Fo hx hsp A pins s σ H x y u v b sb I rx ry d
  obtain ⟨p, d0, fs, rfl, rfl, hp, hD, rfl⟩ := d
  cases rx
  cases ry
  unfold eqBool
  refine wpAny_holding ?_
  refine wpAny_ite_split (fun hab => nomatch (eq_of_beq hab)) (fun _ => ?_)
  refine wpAny_bind (wpAny_mono rc (fun v s' hv => ?_) fun _ _ x => x)
  obtain ⟨rfl, q⟩ := hv
  exact wpAny_truthy_bool ⟨rfl, q⟩
/-- against None: an instance of the class C, or None itself -/
def CNo (C : Addr) (D : Addr → Hp → Prop) : Cmp := fun x y H b => y = .non ∧ ((x = .non ∧ b = true) ∨ CNn C D x y H b)
theorem eqB_no {D : Addr → Hp → Prop} (O : EqC X.K C f) (Fo : OkN X.prog X.w X.K X.mg X.base k f ps sp) (hx : Passes (L2.CX X.prog X.w) X E0) (hsp : ∀ p H, D p H → sp [.ref p, .non] H (fun H' => H' = H)) : EqB X k (CNo C D) := by
  intro A pins s σ H x y u v b sb I rx ry d
  obtain ⟨rfl, ⟨rfl, rfl⟩ | d⟩ := d
  · cases rx
    cases ry
    exact SeqAt.EqAt.same (A := A) (s := s) .none X.prog X.w X.xe _ ⟨rfl, I⟩
  · exact eqB_nn O Fo hx hsp A pins s σ H x .non u v b sb I rx ry d
end
section
variable {X : Cx} {n : Nat} {D : Cmp}
theorem ron_vals : ∀ {xs : List V} {us vs : List Value}, (∀ z ∈ xs, z = .non ∨ ∃ a, z = .ref a) → Vals xs us → Vals xs vs → us = vs
  | [], _, _, _, .nil, .nil => rfl
  | x :: xs, _, _, h, .cons r1 r2, .cons q1 q2 => by
    rcases h x (by simp) with rfl | ⟨a, rfl⟩ <;>
    · cases r1
      cases q1
      rw [ron_vals (fun z hz => h z (List.mem_cons_of_mem _ hz)) r2 q2]
/-- x in xs, a list of objects with own == and Nones -/
def rInB (D : Cmp) : R2 := fun x y H Q => ∃ l xs e, y = .ref l ∧ H l = some (.lst xs) ∧ (∀ z ∈ xs, z = .non ∨ ∃ a, z = .ref a) ∧ (∀ (i : Nat) z, xs[i]? = some z → D z x H (e i)) ∧ Q (.bl ((List.range xs.length).any e)) H
theorem op_inB (h : EqB X n D) (hr : Room (n + 1) X.A) : OpR X (compareOp .In) (rInB D) := by
  intro pins s σ H x y v u Q I rx ry hq
  obtain ⟨l, xs, e, rfl, hl, hrf, hd, q⟩ := hq
  cases ry
  obtain ⟨hz, its, m, rv, ho⟩ := I.hok l _ hl
  show wpAny _ X.A (do return Value.bool (← contains (.ref l) v)) _ _ s
  refine wpAny_bind (wpAny_contains_slot ⟨_, ho, rfl⟩ F.slot_list_contains (wpAny_mono (inc_call (A := X.A) (us := its.toArray) (e := e) (J := fun t => Inv X pins σ H t) (Q := fun w t => ∃ b, w = Value.bool b ∧ Inv X pins σ H t ∧ b = (List.range xs.length).any e) (fun t It => ?_) (fun j g t It => ?_) (fun t It => ?_) I) (fun w t z => ?_) fun _ _ z => z))
  · obtain ⟨hz2, its2, m2, rv2, ho2⟩ := It.hok l _ hl
    rw [ron_vals hrf rv rv2]
    exact ⟨m2, ho2⟩
  · rw [List.size_toArray] at g
    have k1 : j < xs.length := by rw [rv.length]; exact g
    obtain ⟨u1, a1, r1⟩ := rv.get (List.getElem?_eq_getElem k1)
    rw [List.getElem?_eq_getElem g] at a1
    cases a1
    exact h X.A.in1 pins t σ H _ _ _ _ _ ⟨hr.in1, rfl⟩ It r1 rx (hd j _ (List.getElem?_eq_getElem k1))
  · exact ⟨_, rfl, It, by rw [List.size_toArray, ← rv.length]⟩
  · obtain ⟨b, rfl, It, rfl⟩ := z
    exact wpAny_truthy_bool (wpAny_pure ⟨.bl _, H, It, rfl, q⟩)
end
end AT

set_option maxHeartbeats 4000000
/-! abs(x) by an own __abs__; == where an own __eq__ declines, against what is no instance -/
namespace AT
open PySem PySem.Spec PyProof.Rows L2
open AutoSeq1 (wpAny_loadPart')
section
variable {X : Cx} {C f : Addr} {k : Nat} {ps : List Str} {sp : Sp} {E : XK}
theorem call_absO (M : Meth X.K C "__abs__" f) (F : Ok X.prog X.w X.K X.mg X.base k f ps sp) (hr : Room (k + 1) X.A) (hx : Passes (L2.CX X.prog X.w) X E) :
    CallR X (.builtin "abs") (fun xs H Q => ∃ p d fs, xs = [.ref p] ∧ H p = some (.ins C d fs) ∧ sp [.ref p] H Q E) := by
  intro pins s σ H xs us Q I r h
  obtain ⟨p, d, fs, rfl, hp, hsp⟩ := h
  obtain ⟨u, rfl, rx⟩ := vals1 r
  cases rx
  obtain ⟨fd, F1, b, kp⟩ := F
  obtain ⟨mA, J, _⟩ := ins_get I.hok hp
  obtain ⟨od, J, _⟩ := J.look
  refine Calls.call_function_entry kind_abs plain_abs entry_abs (args_abs _) ?_
  unfold Builtin.«abs»
  refine wpAny_bind (m := oneArg "abs" _) (wpAny_pure ?_)
  refine wpAny_bind (m := callSpecial? (.ref p) (Str.ofString "__abs__")) (PySem.W.special_fn I.kIn J M.at_ (beq_iff_eq.mp M.fn) (wpAny_mono (run_in (A := X.A.in1) (us := [.ref p]) (vs := [.ref p]) rfl F1 hr.in1 b hx I (.cons rfl .nil) hsp) (fun v s' z => ?_) fun _ _ z => z))
  exact wpAny_pure ⟨_, rfl, z⟩
end
/-! ### declining -/
theorem int_declines_ins (b : Int) (u : Tok) (l : Addr) (c : Value) (dd : Option Addr) (sl : Array (Option Value)) :
    Meets (Builtin.«int.__eq__» ⟨[.int b u, .ref l], []⟩) (fun _ R s => s.heap.get? l = some { cls := c, dict := dd, data := .plain, slots := sl } ∧ R (.ok (.ret .notImplemented)) s) :=
  .of_wp fun prog w A R s h => by obtain ⟨hp, g, d, tk, os⟩ := s; obtain ⟨hl, h⟩ := h; wp_walk using wpAny_loadPart' hl, wpAny_load hl; exact ⟨_, rfl, h⟩
theorem bool_declines_ins (b : Bool) (l : Addr) (c : Value) (dd : Option Addr) (sl : Array (Option Value)) :
    Meets (Builtin.«int.__eq__» ⟨[.bool b, .ref l], []⟩) (fun _ R s => s.heap.get? l = some { cls := c, dict := dd, data := .plain, slots := sl } ∧ R (.ok (.ret .notImplemented)) s) :=
  .of_wp fun prog w A R s h => by obtain ⟨hp, g, d, tk, os⟩ := s; obtain ⟨hl, h⟩ := h; wp_walk using wpAny_loadPart' hl, wpAny_load hl; exact ⟨_, rfl, h⟩
theorem str_declines_ins (b : Str) (u : Tok) (l : Addr) (c : Value) (dd : Option Addr) (sl : Array (Option Value)) :
    Meets (Builtin.«str.__eq__» ⟨[.str b u, .ref l], []⟩) (fun _ R s => s.heap.get? l = some { cls := c, dict := dd, data := .plain, slots := sl } ∧ R (.ok (.ret .notImplemented)) s) :=
  .of_wp fun prog w A R s h => by obtain ⟨hp, g, d, tk, os⟩ := s; obtain ⟨hl, h⟩ := h; wp_walk using wpAny_loadPart' hl, wpAny_load hl; exact ⟨_, rfl, h⟩
section
variable {prog : Program} {w : World} {A : Around} {E : Value → Shared → Prop} {s : Shared} {l p : Addr} {T : Value} {Q : Value → Shared → Prop}
theorem tup_declinesI (hl : s.TypeIs (.ref l) "tuple") (ty : PySem.W.Looks (model prog w) s.heap (typeOf (.ref p)) T)
    (sub : PySem.W.Looks (model prog w) s.heap (isSubtype T (.type "tuple")) false) (q : Q .notImplemented s) : wpAny (model prog w) A (call (.builtin "tuple.__eq__") [.ref l, .ref p]) Q E s := by
  refine wpAny_call_entry PySem.F.slot_tuple_eq hl PySem.F.entry_tuple_eq ?_ (PySem.F.args_tuple_eq_2 _ _)
  obtain ⟨hp, g, d, tk, os⟩ := s
  have isi : ∀ {A : Around} {E : Value → Shared → Prop} {R : Bool → Shared → Prop}, R false ⟨hp, g, d, tk, os⟩ → wpAny (model prog w) A (isInstance (.ref p) (.type "tuple")) R E ⟨hp, g, d, tk, os⟩ := fun h => wpAny_bind (ty.here (sub.here h))
  wp_walk using isi
  exact ⟨_, rfl, q⟩
theorem dct_declinesI (hl : s.TypeIs (.ref l) "dict") (ty : PySem.W.Looks (model prog w) s.heap (typeOf (.ref p)) T)
    (sub : PySem.W.Looks (model prog w) s.heap (isSubtype T (.type "dict")) false) (q : Q .notImplemented s) : wpAny (model prog w) A (call (.builtin "dict.__eq__") [.ref l, .ref p]) Q E s := by
  refine wpAny_call_entry PySem.F.slot_dict_eq hl PySem.F.entry_dict_eq ?_ (PySem.F.args_dict_eq_2 _ _)
  obtain ⟨hp, g, d, tk, os⟩ := s
  have isi : ∀ {A : Around} {E : Value → Shared → Prop} {R : Bool → Shared → Prop}, R false ⟨hp, g, d, tk, os⟩ → wpAny (model prog w) A (isInstance (.ref p) (.type "dict")) R E ⟨hp, g, d, tk, os⟩ := fun h => wpAny_bind (ty.here (sub.here h))
  wp_walk using isi
  exact ⟨_, rfl, q⟩
end
/-- a value that is no instance -/
inductive FlatV (H : Hp) : V → String → Prop where
  | non : FlatV H .non "NoneType"
  | bl (b : Bool) : FlatV H (.bl b) "bool"
  | int (i : Int) : FlatV H (.int i) "int"
  | str (x : Str) : FlatV H (.str x) "str"
  | lst {a : Addr} {xs : List V} (e : H a = some (.lst xs)) : FlatV H (.ref a) "list"
  | tup {a : Addr} {xs : List V} (e : H a = some (.tup xs)) : FlatV H (.ref a) "tuple"
  | dct {a : Addr} {kvs : List (Key × V)} (e : H a = some (.dK kvs)) : FlatV H (.ref a) "dict"
theorem FlatV.mem {H : Hp} {y : V} {T : String} (h : FlatV H y T) : T ∈ tyNames := by
  cases h <;> decide
section
variable {X : Cx} {C f : Addr} {k : Nat} {ps : List Str} {sp : SpN}
/-- x == y where x's own __eq__ declines and y is no instance -/
def rEqF (C : Addr) (sp : SpN) : R2 := fun x y H Q => ∃ p d fs T, x = .ref p ∧ H p = some (.ins C d fs) ∧ FlatV H y T ∧ sp [.ref p, y] H (fun H' => H' = H) ∧ Q (.bl false) H
structure DecA (X : Cx) (pins : List (Addr × Obj)) (σ : L2.St) (H : Hp) (p : Addr) (u : Value) (T : String) : Prop where
  one : oneThing? CmpOp.Eq (.ref p) u = none
  ty : ∀ s1, Inv X pins σ H s1 → s1.TypeIs u T
  back : ∀ (A : Around) (E : Value → Shared → Prop) (s1 : Shared) (Q : Option Value → Shared → Prop), Inv X pins σ H s1 → Q none s1 → wpAny (model X.prog X.w) A (tryCompare u (cmpInfo .Eq).2.1 (.ref p)) Q E s1
  same : ∀ (A : Around) (E : Value → Shared → Prop) (s1 : Shared) (Q : Bool → Shared → Prop), Inv X pins σ H s1 → Q false s1 → wpAny (model X.prog X.w) A (isSame (.ref p) u) Q E s1
theorem same_other {M : Model} {A : Around} {E : Value → Shared → Prop} {s : Shared} {x y : Addr} {ox oy : Obj} {R : Bool → Shared → Prop} (hxy : x ≠ y) (hx : s.heap.get? x = some ox) (hy : s.heap.get? y = some oy) (hnt : ox.cls ≠ .type "tuple")
    (h : R false s) : wpAny M A (isSame (.ref x) (.ref y)) R E s := by
  show wpAny M A (if (x == y) = true then pure true else _) R E s
  rw [if_neg (by simpa using hxy)]
  refine wpAny_bind (wpAny_load hx (wpAny_bind (wpAny_load hy ?_)))
  split
  · rename_i h1 _ _ _; exact absurd h1 hnt
  · exact wpAny_pure h
theorem dec_at {pins : List (Addr × Obj)} {σ : L2.St} {H : Hp} {s : Shared} {p d : Addr} {fs : List (Str × V)} {y : V} {u : Value} {T : String} (hk : ∀ T ∈ ["list", "tuple", "dict"], PySem.W.kitOne X.K (.ref C) (.type T) = some false)
    (I : Inv X pins σ H s) (hp : H p = some (.ins C d fs)) (hy : FlatV H y T) (ry : RelV y u) : DecA X pins σ H p u T := by
  have at_ : ∀ {s1 : Shared}, Inv X pins σ H s1 → ∃ oo od, PySem.W.InstAt s1.heap p oo C od ∧ oo.data = .plain := fun {s1} I1 => by
    obtain ⟨mA, J, _⟩ := ins_get I1.hok hp
    obtain ⟨od, J, _⟩ := J.look
    exact ⟨_, _, J, rfl⟩
  have lk : ∀ {s1 : Shared} {T : String}, Inv X pins σ H s1 → T ∈ ["list", "tuple", "dict"] → PySem.W.Looks (model X.prog X.w) s1.heap (isSubtype (.ref C) (.type T)) false := fun {s1 T} I1 hT => by
    have hk := hk T hT
    have kc : PySem.W.kitCls X.K (.ref C) (.type T) = some false := by
      unfold PySem.W.kitOne at hk
      rw [if_neg (show ¬ (Value.ref C == Value.type T) = true from fun z => by have z := eq_of_beq z; cases z)] at hk
      exact hk
    exact (PySem.W.kit_cls (M := model X.prog X.w) I1.kIn kc).2.2
  have gt : ∀ {s1 : Shared}, Inv X pins σ H s1 → ∃ c dd sl, s1.heap.get? p = some { cls := c, dict := dd, data := .plain, slots := sl } ∧ c = .ref C := fun {s1} I1 => by
    obtain ⟨oo, od, J, hd⟩ := at_ I1
    obtain ⟨c, dd, da, sl⟩ := oo
    have hd : da = .plain := hd
    subst hd
    exact ⟨c, dd, sl, J.at_, J.cls⟩
  cases hy with
  | non =>
    cases ry
    exact ⟨rfl, fun _ _ => rfl, fun A E s1 Q I1 q => wpAny_tryCompare_declines (T := "NoneType") rfl F.slot_NoneType_eq (call_gives F.slot_NoneType_eq rfl F.entry_NoneType_eq (F.args_NoneType_eq_2 _ _) (SeqAt.NoneType___eq___none_ref_0 p) (show _ ∧ _ from ⟨rfl, q⟩)),
      fun A E s1 Q I1 q => wpAny_isSame_plain rfl q⟩
  | bl b =>
    cases ry
    refine ⟨rfl, fun _ _ => rfl, fun A E s1 Q I1 q => ?_, fun A E s1 Q I1 q => wpAny_isSame_plain rfl q⟩
    obtain ⟨c, dd, sl, hg, _⟩ := gt I1
    exact wpAny_tryCompare_declines (T := "bool") rfl F.slot_bool_eq (call_meets F.slot_bool_eq rfl F.entry_int_eq (F.args_int_eq_2 _ _) (bool_declines_ins b p c dd sl) ⟨hg, rfl, q⟩)
  | int i =>
    obtain ⟨t, rfl⟩ := ry
    refine ⟨rfl, fun _ _ => rfl, fun A E s1 Q I1 q => ?_, fun A E s1 Q I1 q => wpAny_isSame_plain rfl q⟩
    obtain ⟨c, dd, sl, hg, _⟩ := gt I1
    exact wpAny_tryCompare_declines (T := "int") rfl F.slot_int_eq (call_meets F.slot_int_eq rfl F.entry_int_eq (F.args_int_eq_2 _ _) (int_declines_ins i t p c dd sl) ⟨hg, rfl, q⟩)
  | str x =>
    obtain ⟨t, rfl⟩ := ry
    refine ⟨rfl, fun _ _ => rfl, fun A E s1 Q I1 q => ?_, fun A E s1 Q I1 q => wpAny_isSame_plain rfl q⟩
    obtain ⟨c, dd, sl, hg, _⟩ := gt I1
    exact wpAny_tryCompare_declines (T := "str") rfl F.slot_str_eq (call_meets F.slot_str_eq rfl F.entry_str_eq (F.args_str_eq_2 _ _) (str_declines_ins x t p c dd sl) ⟨hg, rfl, q⟩)
  | lst e =>
    rename_i l xs
    cases ry
    have npl : p ≠ l := by rintro rfl; rw [hp] at e; cases e
    have ol : ∀ s1, Inv X pins σ H s1 → ∃ ol, s1.heap.get? l = some ol ∧ ol.cls = .type "list" := fun s1 I1 => by
      obtain ⟨its, r', pl, _⟩ := I1.list (SqL.of e)
      obtain ⟨ol, h1, h2, _⟩ := pl.isList
      exact ⟨ol, h1, h2⟩
    refine ⟨oneThing_ref .., fun s1 I1 => ol s1 I1, fun A E s1 Q I1 q => ?_, fun A E s1 Q I1 q => ?_⟩
    · obtain ⟨oo, od, J, _⟩ := at_ I1
      exact wpAny_tryCompare_declines (ol s1 I1) PySem.F.slot_list_eq (list_declinesI (ol s1 I1) J.type (lk I1 (by decide)) ⟨rfl, q⟩)
    · obtain ⟨c, dd, sl, hg, hc⟩ := gt I1
      obtain ⟨o2, h1, _⟩ := ol s1 I1
      exact same_other npl hg h1 (by rw [hc]; exact fun z => by cases z) q
  | tup e =>
    rename_i l xs
    cases ry
    have npl : p ≠ l := by rintro rfl; rw [hp] at e; cases e
    have ol : ∀ s1, Inv X pins σ H s1 → ∃ ol, s1.heap.get? l = some ol ∧ ol.cls = .type "tuple" := fun s1 I1 => by
      obtain ⟨hz, its, r', o, h1, h2, _⟩ := I1.hok l _ e
      exact ⟨o, h1, h2⟩
    refine ⟨oneThing_ref .., fun s1 I1 => ol s1 I1, fun A E s1 Q I1 q => ?_, fun A E s1 Q I1 q => ?_⟩
    · obtain ⟨oo, od, J, _⟩ := at_ I1
      exact wpAny_tryCompare_declines (ol s1 I1) PySem.F.slot_tuple_eq (tup_declinesI (ol s1 I1) J.type (lk I1 (by decide)) ⟨rfl, q⟩)
    · obtain ⟨c, dd, sl, hg, hc⟩ := gt I1
      obtain ⟨o2, h1, _⟩ := ol s1 I1
      exact same_other npl hg h1 (by rw [hc]; exact fun z => by cases z) q
  | dct e =>
    rename_i l xs
    cases ry
    have npl : p ≠ l := by rintro rfl; rw [hp] at e; cases e
    have ol : ∀ s1, Inv X pins σ H s1 → ∃ ol, s1.heap.get? l = some ol ∧ ol.cls = .type "dict" := fun s1 I1 => by
      obtain ⟨z, y, vs, r, o, es, ep, h1, h2, _⟩ := I1.hok l _ e
      exact ⟨o, h1, h2.1⟩
    refine ⟨oneThing_ref .., fun s1 I1 => ol s1 I1, fun A E s1 Q I1 q => ?_, fun A E s1 Q I1 q => ?_⟩
    · obtain ⟨oo, od, J, _⟩ := at_ I1
      exact wpAny_tryCompare_declines (ol s1 I1) PySem.F.slot_dict_eq (dct_declinesI (ol s1 I1) J.type (lk I1 (by decide)) ⟨rfl, q⟩)
    · obtain ⟨c, dd, sl, hg, hc⟩ := gt I1
      obtain ⟨o2, h1, _⟩ := ol s1 I1
      exact same_other npl hg h1 (by rw [hc]; exact fun z => by cases z) q
theorem op_eqF (O : EqC X.K C f) (hk : ∀ T ∈ ["list", "tuple", "dict"], PySem.W.kitOne X.K (.ref C) (.type T) = some false) (Fo : OkN X.prog X.w X.K X.mg X.base k f ps sp) (hr : Room k X.A) (hx : Passes (L2.CX X.prog X.w) X E0) : OpR X (compareOp .Eq) (rEqF C sp) := by
  intro pins s σ H x y v u Q I rx ry h
  obtain ⟨p, d, fs, T, rfl, hp, hy, hsp, q⟩ := h
  cases rx
  have D := dec_at hk I hp hy ry
  have at_ : ∀ {s1 : Shared}, Inv X pins σ H s1 → ∃ oo od, PySem.W.InstAt s1.heap p oo C od := fun {s1} I1 => by
    obtain ⟨mA, J, _⟩ := ins_get I1.hok hp
    obtain ⟨od, J, _⟩ := J.look
    exact ⟨_, _, J⟩
  obtain ⟨oo, od, J⟩ := at_ I
  have nl : (Value.ref C != Value.type T) = true := rfl
  show wpAny _ _ (richCompare .Eq _ _) _ _ _
  simp only [richCompare, cmpInfo_Eq, D.one]
  refine wpAny_holding (wpAny_bind (wpAny_cRoomFor hr.units0 ?_))
  refine wpAny_bind (J.type.here (wpAny_bind (wpAny_typeOf (D.ty s I) ?_)))
  rw [if_pos nl]
  refine wpAny_bind ((PySem.W.looks_subIn I.kIn (O.sub T hy.mem)).here ?_)
  simp only [Bool.false_eq_true, if_false, Bool.not_false, if_true]
  refine wpAny_bind (m := tryCompare (.ref p) _ u) ?_
  unfold tryCompare
  refine wpAny_bind (PySem.W.ifBound_K I.kIn J O.find O.fn (wpAny_mono (run_inN (us := [.ref p, u]) (vs := [.ref p, y]) rfl Fo hr hx I (.cons rfl (.cons ry .nil)) hsp) (fun v s1 z => ?_) fun _ _ z => z))
  obtain ⟨rfl, H', I1, rfl⟩ := z
  refine wpAny_pure ?_
  refine wpAny_bind (m := tryCompare u _ (.ref p)) (D.back _ _ s1 _ I1 ?_)
  refine wpAny_bind (wpAny_rule (wpAny_bind (D.same _ _ s1 _ I1 (wpAny_pure ?_))))
  exact ⟨.bl false, _, I1, rfl, q⟩
end
end AT

set_option maxHeartbeats 4000000
/-! own operators in a try's body; x is not True; == of the very same object of several kinds -/
namespace AT
open PySem PySem.Spec PyProof.Rows L2
section
variable {X : Cx} {C f : Addr} {k : Nat} {ps : List Str} {sp : Sp} {a b : Expr} {pos : Pos} {ta tb : TE}
def tOpS (r : L2.St → R2) (ta tb : TE) : TE := fun σ H Q => ta σ H fun x H1 => tb σ H1 fun y H2 => r σ x y H2 Q
def OpRS (X : Cx) (g : Value → Value → Sem Value) (r : L2.St → R2) : Prop :=
  ∀ (pins : List (Addr × Obj)) (s : Shared) (σ : L2.St) (H : Hp) (x y : V) (v u : Value) (Q : VK), Inv X pins σ H s → RelV x v → RelV y u → r σ x y H Q → wpAny (model X.prog X.w) X.A (g v u) (EP X pins σ Q) X.xe s
theorem pe_opS {op : Operator} {r : L2.St → R2} (ho : OpRS X (binaryOp op) r) (ha : PE X a ta) (hb : PE X b tb) : PE X (.BinOp a op b pos) (tOpS r ta tb) := by
  refine ⟨fun pins s σ H Q I h => ?_⟩
  exact wpAny_BinOp (binT ha hb I h fun v u s2 x y H2 I2 rx ry q => ho pins s2 σ H2 x y v u Q I2 rx ry q)
theorem op_ownS {W : WX} {op : Operator} (O : OpC X.K C f op.info.2) (F : Ok X.prog X.w X.K X.mg X.base k f ps sp) (hr : Room k X.A) (tk : Takes X W) : OpRS X (binaryOp op) (fun σ => rOwn X.K C sp (fun cls d H => W cls d σ H)) := by
  intro pins s σ H x y v u Q I rx ry h
  obtain ⟨p, d, fs, t, rfl, hp, ty, ht, hsp⟩ := h
  obtain ⟨fd, F1, b, kp⟩ := F
  cases rx
  obtain ⟨mA, J, _⟩ := ins_get I.hok hp
  obtain ⟨od, J, _⟩ := J.look
  obtain ⟨P, kx, hP, _⟩ := kit_of I ry ty
  have look : PySem.W.Looks (model X.prog X.w) s.heap (typeOf u) t := kx.ty _ _ I.kIn hP
  have run : wpAny (model X.prog X.w) X.A (call (.ref f) [.ref p, u]) (PySem.W.CmpBack (EP X pins σ Q)) X.xe s :=
    wpAny_mono (run_fnSD (us := [.ref p, u]) (vs := [.ref p, y]) (ds := []) (dvs := []) (E := fun σ cls d H => W cls d σ H) F1 hr b .nil (passAt tk σ) I (.cons rfl (.cons ry .nil)) hsp) (fun _ _ z => ep_back z) fun _ _ z => z
  rcases ht with rfl | ⟨T, rfl, hT⟩
  · obtain ⟨m, hF⟩ := I.fr
    exact PySem.W.binop_K hF I.ok.mod.kin J look O.first O.find O.fn run
  · exact bin_ty I.kIn J look O hT run
/-- x is not True, x is not False -/
def rNotB : R2 := fun x y H Q => ∃ b c, x = .bl b ∧ y = .bl c ∧ Q (.bl (b != c)) H
theorem op_notB : OpR X (compareOp .IsNot) rNotB := by
  intro pins s σ H x y v u Q I rx ry h
  obtain ⟨b, c, rfl, rfl, q⟩ := h
  cases rx
  cases ry
  show wpAny _ _ (do return Value.bool (!(← isSame (.bool b) (.bool c)))) _ _ _
  refine wpAny_bind (wpAny_isSame_plain rfl (wpAny_pure (show EP X pins σ Q _ _ from ?_)))
  refine ⟨V.bl (b != c), H, I, ?_, q⟩
  cases b <;> cases c <;> rfl
end
section
variable {X : Cx} {n m : Nat} {D D' : Cmp}
theorem RcB.mono (h : RcB X n D) (hn : n ≤ m) : RcB X m D := fun A pins s σ H x y u v b sb => h A pins s σ H x y u v b (sb.mono hn)
theorem RcB.or (h : RcB X n D) (h' : RcB X n D') : RcB X n (fun x y H b => D x y H b ∨ D' x y H b) := fun A pins s σ H x y u v b sb I rx ry d => by
  rcases d with d | d
  · exact h A pins s σ H x y u v b sb I rx ry d
  · exact h' A pins s σ H x y u v b sb I rx ry d
/-- None, a truth, an integer or a string, the same -/
def CFlS : Cmp := fun x y _ b => x = y ∧ flatV x = true ∧ b = true
theorem rcB_fls : RcB X 0 CFlS := by
  intro A pins s σ H x y u v b sb I rx ry d
  obtain ⟨rfl, hf, rfl⟩ := d
  cases x with
  | non =>
    cases rx
    cases ry
    exact SeqAt.RcAt.none_none X.prog X.w X.xe _ ⟨rfl, I⟩
  | bl b =>
    cases rx
    cases ry
    exact SeqAt.RcAt.bool_bool b b X.prog X.w X.xe _ ⟨by simp, I⟩
  | int i =>
    obtain ⟨t, rfl⟩ := rx
    obtain ⟨t2, rfl⟩ := ry
    exact SeqAt.RcAt.int_int i t i t2 X.prog X.w X.xe _ ⟨by simp, I⟩
  | str z =>
    obtain ⟨t, rfl⟩ := rx
    obtain ⟨t2, rfl⟩ := ry
    exact SeqAt.RcAt.str_str z t z t2 X.prog X.w X.xe _ ⟨by simp, I⟩
  | _ => exact nomatch hf
end
end AT

set_option maxHeartbeats 4000000
namespace K02
open PySem PySem.Spec PyProof.Rows L2 AT
/-! the text by places -/
def top (i : Nat) : Stmt := PySem.Challenge.pw_anytempo_k02_amounts_reckoned.main.body.getD i (.Pass ⟨0, 0, 0, 0⟩)
abbrev s_InvalidInteger_init_ : Stmt := inClass (top 2) 0
def d_InvalidInteger_init_ : FD := fdOf (fun K => He.ma K (He.ga K "InvalidInteger") "__init__") "__init__" "InvalidInteger.__init__" s_InvalidInteger_init_
abbrev s_InvalidAmount_init_ : Stmt := inClass (top 3) 0
def d_InvalidAmount_init_ : FD := fdOf (fun K => He.ma K (He.ga K "InvalidAmount") "__init__") "__init__" "InvalidAmount.__init__" s_InvalidAmount_init_
abbrev s_InvalidPart_init_ : Stmt := inClass (top 4) 0
def d_InvalidPart_init_ : FD := fdOf (fun K => He.ma K (He.ga K "InvalidPart") "__init__") "__init__" "InvalidPart.__init__" s_InvalidPart_init_
abbrev s_is_whole : Stmt := top 6
def d_is_whole : FD := fdOf (fun K => He.ga K "is_whole") "is_whole" "is_whole" s_is_whole
abbrev s_common_factor : Stmt := top 8
def d_common_factor : FD := fdOf (fun K => He.ga K "common_factor") "common_factor" "common_factor" s_common_factor
abbrev s_Amount_init_ : Stmt := inClass (top 9) 0
def d_Amount_init_ : FD := fdOf (fun K => He.ma K (He.ga K "Amount") "__init__") "__init__" "Amount.__init__" s_Amount_init_ [.int 1]
abbrev s_Amount_top : Stmt := inClass (top 9) 1
def d_Amount_top : FD := fdOf (propAt "Amount" "top") "top" "Amount.top" s_Amount_top
abbrev s_Amount_bottom : Stmt := inClass (top 9) 2
def d_Amount_bottom : FD := fdOf (propAt "Amount" "bottom") "bottom" "Amount.bottom" s_Amount_bottom
abbrev s_Amount_eq_ : Stmt := inClass (top 9) 3
def d_Amount_eq_ : FD := fdOf (fun K => He.ma K (He.ga K "Amount") "__eq__") "__eq__" "Amount.__eq__" s_Amount_eq_
abbrev s_Amount_add_ : Stmt := inClass (top 9) 4
def d_Amount_add_ : FD := fdOf (fun K => He.ma K (He.ga K "Amount") "__add__") "__add__" "Amount.__add__" s_Amount_add_
abbrev s_Amount_sub_ : Stmt := inClass (top 9) 5
def d_Amount_sub_ : FD := fdOf (fun K => He.ma K (He.ga K "Amount") "__sub__") "__sub__" "Amount.__sub__" s_Amount_sub_
abbrev s_Amount_mul_ : Stmt := inClass (top 9) 6
def d_Amount_mul_ : FD := fdOf (fun K => He.ma K (He.ga K "Amount") "__mul__") "__mul__" "Amount.__mul__" s_Amount_mul_
abbrev s_Amount_divided : Stmt := inClass (top 9) 7
def d_Amount_divided : FD := fdOf (fun K => He.ma K (He.ga K "Amount") "divided") "divided" "Amount.divided" s_Amount_divided
abbrev s_Amount_neg_ : Stmt := inClass (top 9) 8
def d_Amount_neg_ : FD := fdOf (fun K => He.ma K (He.ga K "Amount") "__neg__") "__neg__" "Amount.__neg__" s_Amount_neg_
abbrev s_Amount_abs_ : Stmt := inClass (top 9) 9
def d_Amount_abs_ : FD := fdOf (fun K => He.ma K (He.ga K "Amount") "__abs__") "__abs__" "Amount.__abs__" s_Amount_abs_
abbrev s_Amount_compare : Stmt := inClass (top 9) 10
def d_Amount_compare : FD := fdOf (fun K => He.ma K (He.ga K "Amount") "compare") "compare" "Amount.compare" s_Amount_compare
abbrev s_is_amount : Stmt := top 10
def d_is_amount : FD := fdOf (fun K => He.ga K "is_amount") "is_amount" "is_amount" s_is_amount
abbrev s_amount_from : Stmt := top 11
def d_amount_from : FD := fdOf (fun K => He.ga K "amount_from") "amount_from" "amount_from" s_amount_from
abbrev s_total : Stmt := top 12
def d_total : FD := fdOf (fun K => He.ga K "total") "total" "total" s_total
abbrev s_extreme : Stmt := top 13
def d_extreme : FD := fdOf (fun K => He.ga K "extreme") "extreme" "extreme" s_extreme
abbrev s_least : Stmt := top 14
def d_least : FD := fdOf (fun K => He.ga K "least") "least" "least" s_least
abbrev s_greatest : Stmt := top 15
def d_greatest : FD := fdOf (fun K => He.ga K "greatest") "greatest" "greatest" s_greatest
abbrev s_w_cell : Stmt := top 17
def d_w_cell : FD := fdOf (fun K => He.ga K "_law_cell") "_law_cell" "_law_cell" s_w_cell
abbrev s_w_box : Stmt := top 18
def d_w_box : FD := fdOf (fun K => He.ga K "_law_box") "_law_box" "_law_box" s_w_box
abbrev s_w_take : Stmt := top 19
def d_w_take : FD := fdOf (fun K => He.ga K "_law_take") "_law_take" "_law_take" s_w_take
abbrev s_w_integer : Stmt := top 20
def d_w_integer : FD := fdOf (fun K => He.ga K "_law_integer") "_law_integer" "_law_integer" s_w_integer
abbrev s_w_pair : Stmt := top 21
def d_w_pair : FD := fdOf (fun K => He.ga K "_law_pair") "_law_pair" "_law_pair" s_w_pair
abbrev s_w_is_pair : Stmt := top 22
def d_w_is_pair : FD := fdOf (fun K => He.ga K "_law_is_pair") "_law_is_pair" "_law_is_pair" s_w_is_pair
abbrev s_w_sign : Stmt := top 23
def d_w_sign : FD := fdOf (fun K => He.ga K "_law_sign") "_law_sign" "_law_sign" s_w_sign
abbrev s_w_two_right : Stmt := top 24
def d_w_two_right : FD := fdOf (fun K => He.ga K "_law_two_right") "_law_two_right" "_law_two_right" s_w_two_right
abbrev s_w_told : Stmt := top 25
def d_w_told : FD := fdOf (fun K => He.ga K "_law_told") "_law_told" "_law_told" s_w_told
abbrev s_w_made : Stmt := top 26
def d_w_made : FD := fdOf (fun K => He.ga K "_law_made") "_law_made" "_law_made" s_w_made
abbrev s_w_refused : Stmt := top 27
def d_w_refused : FD := fdOf (fun K => He.ga K "_law_refused") "_law_refused" "_law_refused" s_w_refused
abbrev s_w_all : Stmt := top 28
def d_w_all : FD := fdOf (fun K => He.ga K "_law_all") "_law_all" "_law_all" s_w_all
abbrev s_w_many_right : Stmt := top 29
def d_w_many_right : FD := fdOf (fun K => He.ga K "_law_many_right") "_law_many_right" "_law_many_right" s_w_many_right
abbrev s_w_none_right : Stmt := top 30
def d_w_none_right : FD := fdOf (fun K => He.ga K "_law_none_right") "_law_none_right" "_law_none_right" s_w_none_right
abbrev s_law : Stmt := top 31
def d_law : FD := fdOf (fun K => He.ga K "law") "law" "law" s_law
def fn : List FD := [d_InvalidInteger_init_, d_InvalidAmount_init_, d_InvalidPart_init_, d_is_whole, d_common_factor, d_Amount_init_, d_Amount_top, d_Amount_bottom, d_Amount_eq_, d_Amount_add_, d_Amount_sub_, d_Amount_mul_, d_Amount_divided, d_Amount_neg_, d_Amount_abs_, d_Amount_compare, d_is_amount, d_amount_from, d_total, d_extreme, d_least, d_greatest, d_w_cell, d_w_box, d_w_take, d_w_integer, d_w_pair, d_w_is_pair, d_w_sign, d_w_two_right, d_w_told, d_w_made, d_w_refused, d_w_all, d_w_many_right, d_w_none_right, d_law]
def ex : Ex := [
  gloB "is_whole",
  gloB "common_factor",
  gloB "is_amount",
  gloB "amount_from",
  gloB "total",
  gloB "extreme",
  gloB "least",
  gloB "greatest",
  gloB "_law_cell",
  gloB "_law_box",
  gloB "_law_take",
  gloB "_law_integer",
  gloB "_law_pair",
  gloB "_law_is_pair",
  gloB "_law_sign",
  gloB "_law_two_right",
  gloB "_law_told",
  gloB "_law_made",
  gloB "_law_refused",
  gloB "_law_all",
  gloB "_law_many_right",
  gloB "_law_none_right",
  gloB "law",
  gloB "CueError",
  gloB "InvalidInteger",
  gloB "InvalidAmount",
  gloB "InvalidPart",
  gloB "Amount",
  freeB "NotImplemented",
  freeB "ValueError",
  freeB "abs",
  freeB "bool",
  freeB "int",
  freeB "isinstance",
  freeB "len",
  freeB "max",
  freeB "min",
  freeB "property",
  freeB "range",
  freeB "repr",
  freeB "zip",
  clsB "Amount",
  mkrB "Amount",
  insB "Amount",
  methB "Amount" "__init__",
  methB "Amount" "__eq__",
  methB "Amount" "__add__",
  methB "Amount" "__sub__",
  methB "Amount" "__mul__",
  methB "Amount" "divided",
  methB "Amount" "__neg__",
  methB "Amount" "__abs__",
  methB "Amount" "compare",
  noatB "Amount" "own_top",
  noatB "Amount" "own_bottom",
  propB "Amount" "top",
  propB "Amount" "bottom",
  kitB (fun _ => .type "NoneType") (fun K => .ref (He.ga K "Amount")) false,
  kitB (fun _ => .type "bool") (fun K => .ref (He.ga K "Amount")) false,
  kitB (fun _ => .type "int") (fun K => .ref (He.ga K "Amount")) false,
  kitB (fun _ => .type "str") (fun K => .ref (He.ga K "Amount")) false,
  kitB (fun _ => .type "list") (fun K => .ref (He.ga K "Amount")) false,
  kitB (fun _ => .type "tuple") (fun K => .ref (He.ga K "Amount")) false,
  kitB (fun _ => .type "dict") (fun K => .ref (He.ga K "Amount")) false,
  kitB (fun K => .ref (He.ga K "Amount")) (fun K => .ref (He.ga K "Amount")) true,
  kitB (fun K => .ref (He.ga K "Amount")) (fun _ => .type "bool") false,
  kitB (fun K => .ref (He.ga K "Amount")) (fun _ => .type "int") false,
  kitB (fun K => .ref (He.ga K "Amount")) (fun _ => .type "str") false,
  kitB (fun K => .ref (He.ga K "Amount")) (fun _ => .type "list") false,
  kitB (fun K => .ref (He.ga K "Amount")) (fun _ => .type "tuple") false,
  kitB (fun K => .ref (He.ga K "Amount")) (fun _ => .type "dict") false,
  fun K => baB K "CueError",
  fun K => xcB K "InvalidInteger" "value",
  fun K => xcB K "InvalidAmount" "value",
  fun K => xcB K "InvalidPart" "value",
  exmB "InvalidInteger" "InvalidInteger" true,
  exmB "InvalidInteger" "InvalidAmount" false,
  exmB "InvalidInteger" "InvalidPart" false,
  exmB "InvalidAmount" "InvalidInteger" false,
  exmB "InvalidAmount" "InvalidAmount" true,
  exmB "InvalidAmount" "InvalidPart" false,
  exmB "InvalidPart" "InvalidInteger" false,
  exmB "InvalidPart" "InvalidAmount" false,
  exmB "InvalidPart" "InvalidPart" true,
  excsB "InvalidInteger",
  kitB (fun K => .ref (He.ga K "InvalidInteger")) (fun K => .ref (He.ga K "CueError")) true,
  excsB "InvalidAmount",
  kitB (fun K => .ref (He.ga K "InvalidAmount")) (fun K => .ref (He.ga K "CueError")) true,
  excsB "InvalidPart",
  kitB (fun K => .ref (He.ga K "InvalidPart")) (fun K => .ref (He.ga K "CueError")) true,
  eqcB "Amount",
  opcB "Amount" "__add__" "add",
  opcB "Amount" "__sub__" "sub",
  opcB "Amount" "__mul__" "mul",
  sysB]
structure Tx (K : PySem.W.Frag) (mg : Str → Option Value) (base : Heap) : Prop where
  says : SaysA fn ex K
  kin : K.In base
  ns : base.Ns mainGlobals mg
section
variable {K : PySem.W.Frag} {mg : Str → Option Value} {base : Heap}
theorem Tx.g_is_whole (T : Tx K mg base) : mg "is_whole" = some (.ref (He.ga K "is_whole")) := PySem.W.mg_of T.kin T.ns (He.eqO_ok (T.says.more 0 (e := gloB "is_whole") rfl))
theorem Tx.g_common_factor (T : Tx K mg base) : mg "common_factor" = some (.ref (He.ga K "common_factor")) := PySem.W.mg_of T.kin T.ns (He.eqO_ok (T.says.more 1 (e := gloB "common_factor") rfl))
theorem Tx.g_is_amount (T : Tx K mg base) : mg "is_amount" = some (.ref (He.ga K "is_amount")) := PySem.W.mg_of T.kin T.ns (He.eqO_ok (T.says.more 2 (e := gloB "is_amount") rfl))
theorem Tx.g_amount_from (T : Tx K mg base) : mg "amount_from" = some (.ref (He.ga K "amount_from")) := PySem.W.mg_of T.kin T.ns (He.eqO_ok (T.says.more 3 (e := gloB "amount_from") rfl))
theorem Tx.g_total (T : Tx K mg base) : mg "total" = some (.ref (He.ga K "total")) := PySem.W.mg_of T.kin T.ns (He.eqO_ok (T.says.more 4 (e := gloB "total") rfl))
theorem Tx.g_extreme (T : Tx K mg base) : mg "extreme" = some (.ref (He.ga K "extreme")) := PySem.W.mg_of T.kin T.ns (He.eqO_ok (T.says.more 5 (e := gloB "extreme") rfl))
theorem Tx.g_least (T : Tx K mg base) : mg "least" = some (.ref (He.ga K "least")) := PySem.W.mg_of T.kin T.ns (He.eqO_ok (T.says.more 6 (e := gloB "least") rfl))
theorem Tx.g_greatest (T : Tx K mg base) : mg "greatest" = some (.ref (He.ga K "greatest")) := PySem.W.mg_of T.kin T.ns (He.eqO_ok (T.says.more 7 (e := gloB "greatest") rfl))
theorem Tx.g_w_cell (T : Tx K mg base) : mg "_law_cell" = some (.ref (He.ga K "_law_cell")) := PySem.W.mg_of T.kin T.ns (He.eqO_ok (T.says.more 8 (e := gloB "_law_cell") rfl))
theorem Tx.g_w_box (T : Tx K mg base) : mg "_law_box" = some (.ref (He.ga K "_law_box")) := PySem.W.mg_of T.kin T.ns (He.eqO_ok (T.says.more 9 (e := gloB "_law_box") rfl))
theorem Tx.g_w_take (T : Tx K mg base) : mg "_law_take" = some (.ref (He.ga K "_law_take")) := PySem.W.mg_of T.kin T.ns (He.eqO_ok (T.says.more 10 (e := gloB "_law_take") rfl))
theorem Tx.g_w_integer (T : Tx K mg base) : mg "_law_integer" = some (.ref (He.ga K "_law_integer")) := PySem.W.mg_of T.kin T.ns (He.eqO_ok (T.says.more 11 (e := gloB "_law_integer") rfl))
theorem Tx.g_w_pair (T : Tx K mg base) : mg "_law_pair" = some (.ref (He.ga K "_law_pair")) := PySem.W.mg_of T.kin T.ns (He.eqO_ok (T.says.more 12 (e := gloB "_law_pair") rfl))
theorem Tx.g_w_is_pair (T : Tx K mg base) : mg "_law_is_pair" = some (.ref (He.ga K "_law_is_pair")) := PySem.W.mg_of T.kin T.ns (He.eqO_ok (T.says.more 13 (e := gloB "_law_is_pair") rfl))
theorem Tx.g_w_sign (T : Tx K mg base) : mg "_law_sign" = some (.ref (He.ga K "_law_sign")) := PySem.W.mg_of T.kin T.ns (He.eqO_ok (T.says.more 14 (e := gloB "_law_sign") rfl))
theorem Tx.g_w_two_right (T : Tx K mg base) : mg "_law_two_right" = some (.ref (He.ga K "_law_two_right")) := PySem.W.mg_of T.kin T.ns (He.eqO_ok (T.says.more 15 (e := gloB "_law_two_right") rfl))
theorem Tx.g_w_told (T : Tx K mg base) : mg "_law_told" = some (.ref (He.ga K "_law_told")) := PySem.W.mg_of T.kin T.ns (He.eqO_ok (T.says.more 16 (e := gloB "_law_told") rfl))
theorem Tx.g_w_made (T : Tx K mg base) : mg "_law_made" = some (.ref (He.ga K "_law_made")) := PySem.W.mg_of T.kin T.ns (He.eqO_ok (T.says.more 17 (e := gloB "_law_made") rfl))
theorem Tx.g_w_refused (T : Tx K mg base) : mg "_law_refused" = some (.ref (He.ga K "_law_refused")) := PySem.W.mg_of T.kin T.ns (He.eqO_ok (T.says.more 18 (e := gloB "_law_refused") rfl))
theorem Tx.g_w_all (T : Tx K mg base) : mg "_law_all" = some (.ref (He.ga K "_law_all")) := PySem.W.mg_of T.kin T.ns (He.eqO_ok (T.says.more 19 (e := gloB "_law_all") rfl))
theorem Tx.g_w_many_right (T : Tx K mg base) : mg "_law_many_right" = some (.ref (He.ga K "_law_many_right")) := PySem.W.mg_of T.kin T.ns (He.eqO_ok (T.says.more 20 (e := gloB "_law_many_right") rfl))
theorem Tx.g_w_none_right (T : Tx K mg base) : mg "_law_none_right" = some (.ref (He.ga K "_law_none_right")) := PySem.W.mg_of T.kin T.ns (He.eqO_ok (T.says.more 21 (e := gloB "_law_none_right") rfl))
theorem Tx.g_law (T : Tx K mg base) : mg "law" = some (.ref (He.ga K "law")) := PySem.W.mg_of T.kin T.ns (He.eqO_ok (T.says.more 22 (e := gloB "law") rfl))
theorem Tx.g_CueError (T : Tx K mg base) : mg "CueError" = some (.ref (He.ga K "CueError")) := PySem.W.mg_of T.kin T.ns (He.eqO_ok (T.says.more 23 (e := gloB "CueError") rfl))
theorem Tx.g_InvalidInteger (T : Tx K mg base) : mg "InvalidInteger" = some (.ref (He.ga K "InvalidInteger")) := PySem.W.mg_of T.kin T.ns (He.eqO_ok (T.says.more 24 (e := gloB "InvalidInteger") rfl))
theorem Tx.g_InvalidAmount (T : Tx K mg base) : mg "InvalidAmount" = some (.ref (He.ga K "InvalidAmount")) := PySem.W.mg_of T.kin T.ns (He.eqO_ok (T.says.more 25 (e := gloB "InvalidAmount") rfl))
theorem Tx.g_InvalidPart (T : Tx K mg base) : mg "InvalidPart" = some (.ref (He.ga K "InvalidPart")) := PySem.W.mg_of T.kin T.ns (He.eqO_ok (T.says.more 26 (e := gloB "InvalidPart") rfl))
theorem Tx.g_Amount (T : Tx K mg base) : mg "Amount" = some (.ref (He.ga K "Amount")) := PySem.W.mg_of T.kin T.ns (He.eqO_ok (T.says.more 27 (e := gloB "Amount") rfl))
theorem Tx.b_NotImplemented (T : Tx K mg base) : mg "NotImplemented" = none := PySem.W.mg_none_of T.kin T.ns (He.eqO_ok (T.says.more 28 (e := freeB "NotImplemented") rfl))
theorem Tx.b_ValueError (T : Tx K mg base) : mg "ValueError" = none := PySem.W.mg_none_of T.kin T.ns (He.eqO_ok (T.says.more 29 (e := freeB "ValueError") rfl))
theorem Tx.b_abs (T : Tx K mg base) : mg "abs" = none := PySem.W.mg_none_of T.kin T.ns (He.eqO_ok (T.says.more 30 (e := freeB "abs") rfl))
theorem Tx.b_bool (T : Tx K mg base) : mg "bool" = none := PySem.W.mg_none_of T.kin T.ns (He.eqO_ok (T.says.more 31 (e := freeB "bool") rfl))
theorem Tx.b_int (T : Tx K mg base) : mg "int" = none := PySem.W.mg_none_of T.kin T.ns (He.eqO_ok (T.says.more 32 (e := freeB "int") rfl))
theorem Tx.b_isinstance (T : Tx K mg base) : mg "isinstance" = none := PySem.W.mg_none_of T.kin T.ns (He.eqO_ok (T.says.more 33 (e := freeB "isinstance") rfl))
theorem Tx.b_len (T : Tx K mg base) : mg "len" = none := PySem.W.mg_none_of T.kin T.ns (He.eqO_ok (T.says.more 34 (e := freeB "len") rfl))
theorem Tx.b_max (T : Tx K mg base) : mg "max" = none := PySem.W.mg_none_of T.kin T.ns (He.eqO_ok (T.says.more 35 (e := freeB "max") rfl))
theorem Tx.b_min (T : Tx K mg base) : mg "min" = none := PySem.W.mg_none_of T.kin T.ns (He.eqO_ok (T.says.more 36 (e := freeB "min") rfl))
theorem Tx.b_property (T : Tx K mg base) : mg "property" = none := PySem.W.mg_none_of T.kin T.ns (He.eqO_ok (T.says.more 37 (e := freeB "property") rfl))
theorem Tx.b_range (T : Tx K mg base) : mg "range" = none := PySem.W.mg_none_of T.kin T.ns (He.eqO_ok (T.says.more 38 (e := freeB "range") rfl))
theorem Tx.b_repr (T : Tx K mg base) : mg "repr" = none := PySem.W.mg_none_of T.kin T.ns (He.eqO_ok (T.says.more 39 (e := freeB "repr") rfl))
theorem Tx.b_zip (T : Tx K mg base) : mg "zip" = none := PySem.W.mg_none_of T.kin T.ns (He.eqO_ok (T.says.more 40 (e := freeB "zip") rfl))
theorem Tx.cls_Amount (T : Tx K mg base) : Cls K (He.ga K "Amount") := He.cls_ok (T.says.more 41 (e := clsB "Amount") rfl)
theorem Tx.mkr_Amount (T : Tx K mg base) : Mk K (He.ga K "Amount") (He.ma K (He.ga K "Amount") "__init__") := He.mkr_ok (T.says.more 42 (e := mkrB "Amount") rfl)
theorem Tx.ins_Amount (T : Tx K mg base) {H : Hp} {a dx : Addr} {fs : List (Str × V)} (e : H a = some (.ins (He.ga K "Amount") dx fs)) : TyX K H (.ref a) (.ref (He.ga K "Amount")) := insB_ok (T.says.more 43 (e := insB "Amount") rfl) T.cls_Amount e
theorem Tx.m_Amount_init_ (T : Tx K mg base) : Meth K (He.ga K "Amount") "__init__" (He.ma K (He.ga K "Amount") "__init__") := He.meth_ok (T.says.more 44 (e := methB "Amount" "__init__") rfl)
theorem Tx.m_Amount_eq_ (T : Tx K mg base) : Meth K (He.ga K "Amount") "__eq__" (He.ma K (He.ga K "Amount") "__eq__") := He.meth_ok (T.says.more 45 (e := methB "Amount" "__eq__") rfl)
theorem Tx.m_Amount_add_ (T : Tx K mg base) : Meth K (He.ga K "Amount") "__add__" (He.ma K (He.ga K "Amount") "__add__") := He.meth_ok (T.says.more 46 (e := methB "Amount" "__add__") rfl)
theorem Tx.m_Amount_sub_ (T : Tx K mg base) : Meth K (He.ga K "Amount") "__sub__" (He.ma K (He.ga K "Amount") "__sub__") := He.meth_ok (T.says.more 47 (e := methB "Amount" "__sub__") rfl)
theorem Tx.m_Amount_mul_ (T : Tx K mg base) : Meth K (He.ga K "Amount") "__mul__" (He.ma K (He.ga K "Amount") "__mul__") := He.meth_ok (T.says.more 48 (e := methB "Amount" "__mul__") rfl)
theorem Tx.m_Amount_divided (T : Tx K mg base) : Meth K (He.ga K "Amount") "divided" (He.ma K (He.ga K "Amount") "divided") := He.meth_ok (T.says.more 49 (e := methB "Amount" "divided") rfl)
theorem Tx.m_Amount_neg_ (T : Tx K mg base) : Meth K (He.ga K "Amount") "__neg__" (He.ma K (He.ga K "Amount") "__neg__") := He.meth_ok (T.says.more 50 (e := methB "Amount" "__neg__") rfl)
theorem Tx.m_Amount_abs_ (T : Tx K mg base) : Meth K (He.ga K "Amount") "__abs__" (He.ma K (He.ga K "Amount") "__abs__") := He.meth_ok (T.says.more 51 (e := methB "Amount" "__abs__") rfl)
theorem Tx.m_Amount_compare (T : Tx K mg base) : Meth K (He.ga K "Amount") "compare" (He.ma K (He.ga K "Amount") "compare") := He.meth_ok (T.says.more 52 (e := methB "Amount" "compare") rfl)
theorem Tx.no_Amount_own_top (T : Tx K mg base) : NoAttr K (He.ga K "Amount") "own_top" := He.noat_ok (T.says.more 53 (e := noatB "Amount" "own_top") rfl)
theorem Tx.no_Amount_own_bottom (T : Tx K mg base) : NoAttr K (He.ga K "Amount") "own_bottom" := He.noat_ok (T.says.more 54 (e := noatB "Amount" "own_bottom") rfl)
theorem Tx.pr_Amount_top (T : Tx K mg base) : ∃ p, PropOf K (He.ga K "Amount") "top" p (propAt "Amount" "top" K) := propB_ok (T.says.more 55 (e := propB "Amount" "top") rfl)
theorem Tx.pr_Amount_bottom (T : Tx K mg base) : ∃ p, PropOf K (He.ga K "Amount") "bottom" p (propAt "Amount" "bottom" K) := propB_ok (T.says.more 56 (e := propB "Amount" "bottom") rfl)
theorem Tx.k_NoneType_Amount (T : Tx K mg base) : PySem.W.kitOne K ((fun _ => .type "NoneType") K) ((fun K => .ref (He.ga K "Amount")) K) = some false := kitB_ok (T.says.more 57 (e := kitB (fun _ => .type "NoneType") (fun K => .ref (He.ga K "Amount")) false) rfl)
theorem Tx.k_bool_Amount (T : Tx K mg base) : PySem.W.kitOne K ((fun _ => .type "bool") K) ((fun K => .ref (He.ga K "Amount")) K) = some false := kitB_ok (T.says.more 58 (e := kitB (fun _ => .type "bool") (fun K => .ref (He.ga K "Amount")) false) rfl)
theorem Tx.k_int_Amount (T : Tx K mg base) : PySem.W.kitOne K ((fun _ => .type "int") K) ((fun K => .ref (He.ga K "Amount")) K) = some false := kitB_ok (T.says.more 59 (e := kitB (fun _ => .type "int") (fun K => .ref (He.ga K "Amount")) false) rfl)
theorem Tx.k_str_Amount (T : Tx K mg base) : PySem.W.kitOne K ((fun _ => .type "str") K) ((fun K => .ref (He.ga K "Amount")) K) = some false := kitB_ok (T.says.more 60 (e := kitB (fun _ => .type "str") (fun K => .ref (He.ga K "Amount")) false) rfl)
theorem Tx.k_list_Amount (T : Tx K mg base) : PySem.W.kitOne K ((fun _ => .type "list") K) ((fun K => .ref (He.ga K "Amount")) K) = some false := kitB_ok (T.says.more 61 (e := kitB (fun _ => .type "list") (fun K => .ref (He.ga K "Amount")) false) rfl)
theorem Tx.k_tuple_Amount (T : Tx K mg base) : PySem.W.kitOne K ((fun _ => .type "tuple") K) ((fun K => .ref (He.ga K "Amount")) K) = some false := kitB_ok (T.says.more 62 (e := kitB (fun _ => .type "tuple") (fun K => .ref (He.ga K "Amount")) false) rfl)
theorem Tx.k_dict_Amount (T : Tx K mg base) : PySem.W.kitOne K ((fun _ => .type "dict") K) ((fun K => .ref (He.ga K "Amount")) K) = some false := kitB_ok (T.says.more 63 (e := kitB (fun _ => .type "dict") (fun K => .ref (He.ga K "Amount")) false) rfl)
theorem Tx.k_Amount_Amount (T : Tx K mg base) : PySem.W.kitOne K ((fun K => .ref (He.ga K "Amount")) K) ((fun K => .ref (He.ga K "Amount")) K) = some true := kitB_ok (T.says.more 64 (e := kitB (fun K => .ref (He.ga K "Amount")) (fun K => .ref (He.ga K "Amount")) true) rfl)
theorem Tx.k_Amount_bool (T : Tx K mg base) : PySem.W.kitOne K ((fun K => .ref (He.ga K "Amount")) K) ((fun _ => .type "bool") K) = some false := kitB_ok (T.says.more 65 (e := kitB (fun K => .ref (He.ga K "Amount")) (fun _ => .type "bool") false) rfl)
theorem Tx.k_Amount_int (T : Tx K mg base) : PySem.W.kitOne K ((fun K => .ref (He.ga K "Amount")) K) ((fun _ => .type "int") K) = some false := kitB_ok (T.says.more 66 (e := kitB (fun K => .ref (He.ga K "Amount")) (fun _ => .type "int") false) rfl)
theorem Tx.k_Amount_str (T : Tx K mg base) : PySem.W.kitOne K ((fun K => .ref (He.ga K "Amount")) K) ((fun _ => .type "str") K) = some false := kitB_ok (T.says.more 67 (e := kitB (fun K => .ref (He.ga K "Amount")) (fun _ => .type "str") false) rfl)
theorem Tx.k_Amount_list (T : Tx K mg base) : PySem.W.kitOne K ((fun K => .ref (He.ga K "Amount")) K) ((fun _ => .type "list") K) = some false := kitB_ok (T.says.more 68 (e := kitB (fun K => .ref (He.ga K "Amount")) (fun _ => .type "list") false) rfl)
theorem Tx.k_Amount_tuple (T : Tx K mg base) : PySem.W.kitOne K ((fun K => .ref (He.ga K "Amount")) K) ((fun _ => .type "tuple") K) = some false := kitB_ok (T.says.more 69 (e := kitB (fun K => .ref (He.ga K "Amount")) (fun _ => .type "tuple") false) rfl)
theorem Tx.k_Amount_dict (T : Tx K mg base) : PySem.W.kitOne K ((fun K => .ref (He.ga K "Amount")) K) ((fun _ => .type "dict") K) = some false := kitB_ok (T.says.more 70 (e := kitB (fun K => .ref (He.ga K "Amount")) (fun _ => .type "dict") false) rfl)
theorem Tx.ba_CueError (T : Tx K mg base) : Ba K "CueError" := baB_ok (T.says.more 71 (e := fun K => baB K "CueError") rfl)
theorem Tx.xc_InvalidInteger (T : Tx K mg base) : Xc K "InvalidInteger" "value" := xcB_ok (T.says.more 72 (e := fun K => xcB K "InvalidInteger" "value") rfl)
theorem Tx.xc_InvalidAmount (T : Tx K mg base) : Xc K "InvalidAmount" "value" := xcB_ok (T.says.more 73 (e := fun K => xcB K "InvalidAmount" "value") rfl)
theorem Tx.xc_InvalidPart (T : Tx K mg base) : Xc K "InvalidPart" "value" := xcB_ok (T.says.more 74 (e := fun K => xcB K "InvalidPart" "value") rfl)
theorem Tx.ex_InvalidInteger_InvalidInteger (T : Tx K mg base) : PySem.W.exmOne K (.ref (He.ga K "InvalidInteger")) (.ref (He.ga K "InvalidInteger")) = some true := He.exm_ok (T.says.more 75 (e := exmB "InvalidInteger" "InvalidInteger" true) rfl)
theorem Tx.ex_InvalidInteger_InvalidAmount (T : Tx K mg base) : PySem.W.exmOne K (.ref (He.ga K "InvalidInteger")) (.ref (He.ga K "InvalidAmount")) = some false := He.exm_ok (T.says.more 76 (e := exmB "InvalidInteger" "InvalidAmount" false) rfl)
theorem Tx.ex_InvalidInteger_InvalidPart (T : Tx K mg base) : PySem.W.exmOne K (.ref (He.ga K "InvalidInteger")) (.ref (He.ga K "InvalidPart")) = some false := He.exm_ok (T.says.more 77 (e := exmB "InvalidInteger" "InvalidPart" false) rfl)
theorem Tx.ex_InvalidAmount_InvalidInteger (T : Tx K mg base) : PySem.W.exmOne K (.ref (He.ga K "InvalidAmount")) (.ref (He.ga K "InvalidInteger")) = some false := He.exm_ok (T.says.more 78 (e := exmB "InvalidAmount" "InvalidInteger" false) rfl)
theorem Tx.ex_InvalidAmount_InvalidAmount (T : Tx K mg base) : PySem.W.exmOne K (.ref (He.ga K "InvalidAmount")) (.ref (He.ga K "InvalidAmount")) = some true := He.exm_ok (T.says.more 79 (e := exmB "InvalidAmount" "InvalidAmount" true) rfl)
theorem Tx.ex_InvalidAmount_InvalidPart (T : Tx K mg base) : PySem.W.exmOne K (.ref (He.ga K "InvalidAmount")) (.ref (He.ga K "InvalidPart")) = some false := He.exm_ok (T.says.more 80 (e := exmB "InvalidAmount" "InvalidPart" false) rfl)
theorem Tx.ex_InvalidPart_InvalidInteger (T : Tx K mg base) : PySem.W.exmOne K (.ref (He.ga K "InvalidPart")) (.ref (He.ga K "InvalidInteger")) = some false := He.exm_ok (T.says.more 81 (e := exmB "InvalidPart" "InvalidInteger" false) rfl)
theorem Tx.ex_InvalidPart_InvalidAmount (T : Tx K mg base) : PySem.W.exmOne K (.ref (He.ga K "InvalidPart")) (.ref (He.ga K "InvalidAmount")) = some false := He.exm_ok (T.says.more 82 (e := exmB "InvalidPart" "InvalidAmount" false) rfl)
theorem Tx.ex_InvalidPart_InvalidPart (T : Tx K mg base) : PySem.W.exmOne K (.ref (He.ga K "InvalidPart")) (.ref (He.ga K "InvalidPart")) = some true := He.exm_ok (T.says.more 83 (e := exmB "InvalidPart" "InvalidPart" true) rfl)
theorem Tx.xk_InvalidInteger (T : Tx K mg base) : ExcC K (He.ga K "InvalidInteger") := excs_ok (T.says.more 84 (e := excsB "InvalidInteger") rfl)
theorem Tx.kb_InvalidInteger (T : Tx K mg base) : PySem.W.kitOne K ((fun K => .ref (He.ga K "InvalidInteger")) K) ((fun K => .ref (He.ga K "CueError")) K) = some true := kitB_ok (T.says.more 85 (e := kitB (fun K => .ref (He.ga K "InvalidInteger")) (fun K => .ref (He.ga K "CueError")) true) rfl)
theorem Tx.xk_InvalidAmount (T : Tx K mg base) : ExcC K (He.ga K "InvalidAmount") := excs_ok (T.says.more 86 (e := excsB "InvalidAmount") rfl)
theorem Tx.kb_InvalidAmount (T : Tx K mg base) : PySem.W.kitOne K ((fun K => .ref (He.ga K "InvalidAmount")) K) ((fun K => .ref (He.ga K "CueError")) K) = some true := kitB_ok (T.says.more 87 (e := kitB (fun K => .ref (He.ga K "InvalidAmount")) (fun K => .ref (He.ga K "CueError")) true) rfl)
theorem Tx.xk_InvalidPart (T : Tx K mg base) : ExcC K (He.ga K "InvalidPart") := excs_ok (T.says.more 88 (e := excsB "InvalidPart") rfl)
theorem Tx.kb_InvalidPart (T : Tx K mg base) : PySem.W.kitOne K ((fun K => .ref (He.ga K "InvalidPart")) K) ((fun K => .ref (He.ga K "CueError")) K) = some true := kitB_ok (T.says.more 89 (e := kitB (fun K => .ref (He.ga K "InvalidPart")) (fun K => .ref (He.ga K "CueError")) true) rfl)
theorem Tx.eq_Amount (T : Tx K mg base) : EqC K (He.ga K "Amount") (He.ma K (He.ga K "Amount") "__eq__") := eqc_ok (T.says.more 90 (e := eqcB "Amount") rfl)
theorem Tx.op_Amount_add (T : Tx K mg base) : OpC K (He.ga K "Amount") (He.ma K (He.ga K "Amount") "__add__") "add" := opc_ok (T.says.more 91 (e := opcB "Amount" "__add__" "add") rfl)
theorem Tx.op_Amount_sub (T : Tx K mg base) : OpC K (He.ga K "Amount") (He.ma K (He.ga K "Amount") "__sub__") "sub" := opc_ok (T.says.more 92 (e := opcB "Amount" "__sub__" "sub") rfl)
theorem Tx.op_Amount_mul (T : Tx K mg base) : OpC K (He.ga K "Amount") (He.ma K (He.ga K "Amount") "__mul__") "mul" := opc_ok (T.says.more 93 (e := opcB "Amount" "__mul__" "mul") rfl)
theorem Tx.sys (T : Tx K mg base) : ∃ o, K.lookup sysModules = some o ∧ o.cls = .type "dict" := sysB_ok (T.says.more 94 (e := sysB) rfl)
theorem Tx.f_InvalidInteger_init_ (T : Tx K mg base) : ∃ fd, FunD K d_InvalidInteger_init_.name d_InvalidInteger_init_.qual (defArgs s_InvalidInteger_init_) (defBody s_InvalidInteger_init_) (defScope s_InvalidInteger_init_) (d_InvalidInteger_init_.dvs K) (d_InvalidInteger_init_.kws K) (d_InvalidInteger_init_.loc K) fd := T.says.fun_ 0 (d := d_InvalidInteger_init_) rfl
theorem Tx.f_InvalidAmount_init_ (T : Tx K mg base) : ∃ fd, FunD K d_InvalidAmount_init_.name d_InvalidAmount_init_.qual (defArgs s_InvalidAmount_init_) (defBody s_InvalidAmount_init_) (defScope s_InvalidAmount_init_) (d_InvalidAmount_init_.dvs K) (d_InvalidAmount_init_.kws K) (d_InvalidAmount_init_.loc K) fd := T.says.fun_ 1 (d := d_InvalidAmount_init_) rfl
theorem Tx.f_InvalidPart_init_ (T : Tx K mg base) : ∃ fd, FunD K d_InvalidPart_init_.name d_InvalidPart_init_.qual (defArgs s_InvalidPart_init_) (defBody s_InvalidPart_init_) (defScope s_InvalidPart_init_) (d_InvalidPart_init_.dvs K) (d_InvalidPart_init_.kws K) (d_InvalidPart_init_.loc K) fd := T.says.fun_ 2 (d := d_InvalidPart_init_) rfl
theorem Tx.f_is_whole (T : Tx K mg base) : ∃ fd, FunD K d_is_whole.name d_is_whole.qual (defArgs s_is_whole) (defBody s_is_whole) (defScope s_is_whole) (d_is_whole.dvs K) (d_is_whole.kws K) (d_is_whole.loc K) fd := T.says.fun_ 3 (d := d_is_whole) rfl
theorem Tx.f_common_factor (T : Tx K mg base) : ∃ fd, FunD K d_common_factor.name d_common_factor.qual (defArgs s_common_factor) (defBody s_common_factor) (defScope s_common_factor) (d_common_factor.dvs K) (d_common_factor.kws K) (d_common_factor.loc K) fd := T.says.fun_ 4 (d := d_common_factor) rfl
theorem Tx.f_Amount_init_ (T : Tx K mg base) : ∃ fd, FunD K d_Amount_init_.name d_Amount_init_.qual (defArgs s_Amount_init_) (defBody s_Amount_init_) (defScope s_Amount_init_) (d_Amount_init_.dvs K) (d_Amount_init_.kws K) (d_Amount_init_.loc K) fd := T.says.fun_ 5 (d := d_Amount_init_) rfl
theorem Tx.f_Amount_top (T : Tx K mg base) : ∃ fd, FunD K d_Amount_top.name d_Amount_top.qual (defArgs s_Amount_top) (defBody s_Amount_top) (defScope s_Amount_top) (d_Amount_top.dvs K) (d_Amount_top.kws K) (d_Amount_top.loc K) fd := T.says.fun_ 6 (d := d_Amount_top) rfl
theorem Tx.f_Amount_bottom (T : Tx K mg base) : ∃ fd, FunD K d_Amount_bottom.name d_Amount_bottom.qual (defArgs s_Amount_bottom) (defBody s_Amount_bottom) (defScope s_Amount_bottom) (d_Amount_bottom.dvs K) (d_Amount_bottom.kws K) (d_Amount_bottom.loc K) fd := T.says.fun_ 7 (d := d_Amount_bottom) rfl
theorem Tx.f_Amount_eq_ (T : Tx K mg base) : ∃ fd, FunD K d_Amount_eq_.name d_Amount_eq_.qual (defArgs s_Amount_eq_) (defBody s_Amount_eq_) (defScope s_Amount_eq_) (d_Amount_eq_.dvs K) (d_Amount_eq_.kws K) (d_Amount_eq_.loc K) fd := T.says.fun_ 8 (d := d_Amount_eq_) rfl
theorem Tx.f_Amount_add_ (T : Tx K mg base) : ∃ fd, FunD K d_Amount_add_.name d_Amount_add_.qual (defArgs s_Amount_add_) (defBody s_Amount_add_) (defScope s_Amount_add_) (d_Amount_add_.dvs K) (d_Amount_add_.kws K) (d_Amount_add_.loc K) fd := T.says.fun_ 9 (d := d_Amount_add_) rfl
theorem Tx.f_Amount_sub_ (T : Tx K mg base) : ∃ fd, FunD K d_Amount_sub_.name d_Amount_sub_.qual (defArgs s_Amount_sub_) (defBody s_Amount_sub_) (defScope s_Amount_sub_) (d_Amount_sub_.dvs K) (d_Amount_sub_.kws K) (d_Amount_sub_.loc K) fd := T.says.fun_ 10 (d := d_Amount_sub_) rfl
theorem Tx.f_Amount_mul_ (T : Tx K mg base) : ∃ fd, FunD K d_Amount_mul_.name d_Amount_mul_.qual (defArgs s_Amount_mul_) (defBody s_Amount_mul_) (defScope s_Amount_mul_) (d_Amount_mul_.dvs K) (d_Amount_mul_.kws K) (d_Amount_mul_.loc K) fd := T.says.fun_ 11 (d := d_Amount_mul_) rfl
theorem Tx.f_Amount_divided (T : Tx K mg base) : ∃ fd, FunD K d_Amount_divided.name d_Amount_divided.qual (defArgs s_Amount_divided) (defBody s_Amount_divided) (defScope s_Amount_divided) (d_Amount_divided.dvs K) (d_Amount_divided.kws K) (d_Amount_divided.loc K) fd := T.says.fun_ 12 (d := d_Amount_divided) rfl
theorem Tx.f_Amount_neg_ (T : Tx K mg base) : ∃ fd, FunD K d_Amount_neg_.name d_Amount_neg_.qual (defArgs s_Amount_neg_) (defBody s_Amount_neg_) (defScope s_Amount_neg_) (d_Amount_neg_.dvs K) (d_Amount_neg_.kws K) (d_Amount_neg_.loc K) fd := T.says.fun_ 13 (d := d_Amount_neg_) rfl
theorem Tx.f_Amount_abs_ (T : Tx K mg base) : ∃ fd, FunD K d_Amount_abs_.name d_Amount_abs_.qual (defArgs s_Amount_abs_) (defBody s_Amount_abs_) (defScope s_Amount_abs_) (d_Amount_abs_.dvs K) (d_Amount_abs_.kws K) (d_Amount_abs_.loc K) fd := T.says.fun_ 14 (d := d_Amount_abs_) rfl
theorem Tx.f_Amount_compare (T : Tx K mg base) : ∃ fd, FunD K d_Amount_compare.name d_Amount_compare.qual (defArgs s_Amount_compare) (defBody s_Amount_compare) (defScope s_Amount_compare) (d_Amount_compare.dvs K) (d_Amount_compare.kws K) (d_Amount_compare.loc K) fd := T.says.fun_ 15 (d := d_Amount_compare) rfl
theorem Tx.f_is_amount (T : Tx K mg base) : ∃ fd, FunD K d_is_amount.name d_is_amount.qual (defArgs s_is_amount) (defBody s_is_amount) (defScope s_is_amount) (d_is_amount.dvs K) (d_is_amount.kws K) (d_is_amount.loc K) fd := T.says.fun_ 16 (d := d_is_amount) rfl
theorem Tx.f_amount_from (T : Tx K mg base) : ∃ fd, FunD K d_amount_from.name d_amount_from.qual (defArgs s_amount_from) (defBody s_amount_from) (defScope s_amount_from) (d_amount_from.dvs K) (d_amount_from.kws K) (d_amount_from.loc K) fd := T.says.fun_ 17 (d := d_amount_from) rfl
theorem Tx.f_total (T : Tx K mg base) : ∃ fd, FunD K d_total.name d_total.qual (defArgs s_total) (defBody s_total) (defScope s_total) (d_total.dvs K) (d_total.kws K) (d_total.loc K) fd := T.says.fun_ 18 (d := d_total) rfl
theorem Tx.f_extreme (T : Tx K mg base) : ∃ fd, FunD K d_extreme.name d_extreme.qual (defArgs s_extreme) (defBody s_extreme) (defScope s_extreme) (d_extreme.dvs K) (d_extreme.kws K) (d_extreme.loc K) fd := T.says.fun_ 19 (d := d_extreme) rfl
theorem Tx.f_least (T : Tx K mg base) : ∃ fd, FunD K d_least.name d_least.qual (defArgs s_least) (defBody s_least) (defScope s_least) (d_least.dvs K) (d_least.kws K) (d_least.loc K) fd := T.says.fun_ 20 (d := d_least) rfl
theorem Tx.f_greatest (T : Tx K mg base) : ∃ fd, FunD K d_greatest.name d_greatest.qual (defArgs s_greatest) (defBody s_greatest) (defScope s_greatest) (d_greatest.dvs K) (d_greatest.kws K) (d_greatest.loc K) fd := T.says.fun_ 21 (d := d_greatest) rfl
theorem Tx.f_w_cell (T : Tx K mg base) : ∃ fd, FunD K d_w_cell.name d_w_cell.qual (defArgs s_w_cell) (defBody s_w_cell) (defScope s_w_cell) (d_w_cell.dvs K) (d_w_cell.kws K) (d_w_cell.loc K) fd := T.says.fun_ 22 (d := d_w_cell) rfl
theorem Tx.f_w_box (T : Tx K mg base) : ∃ fd, FunD K d_w_box.name d_w_box.qual (defArgs s_w_box) (defBody s_w_box) (defScope s_w_box) (d_w_box.dvs K) (d_w_box.kws K) (d_w_box.loc K) fd := T.says.fun_ 23 (d := d_w_box) rfl
theorem Tx.f_w_take (T : Tx K mg base) : ∃ fd, FunD K d_w_take.name d_w_take.qual (defArgs s_w_take) (defBody s_w_take) (defScope s_w_take) (d_w_take.dvs K) (d_w_take.kws K) (d_w_take.loc K) fd := T.says.fun_ 24 (d := d_w_take) rfl
theorem Tx.f_w_integer (T : Tx K mg base) : ∃ fd, FunD K d_w_integer.name d_w_integer.qual (defArgs s_w_integer) (defBody s_w_integer) (defScope s_w_integer) (d_w_integer.dvs K) (d_w_integer.kws K) (d_w_integer.loc K) fd := T.says.fun_ 25 (d := d_w_integer) rfl
theorem Tx.f_w_pair (T : Tx K mg base) : ∃ fd, FunD K d_w_pair.name d_w_pair.qual (defArgs s_w_pair) (defBody s_w_pair) (defScope s_w_pair) (d_w_pair.dvs K) (d_w_pair.kws K) (d_w_pair.loc K) fd := T.says.fun_ 26 (d := d_w_pair) rfl
theorem Tx.f_w_is_pair (T : Tx K mg base) : ∃ fd, FunD K d_w_is_pair.name d_w_is_pair.qual (defArgs s_w_is_pair) (defBody s_w_is_pair) (defScope s_w_is_pair) (d_w_is_pair.dvs K) (d_w_is_pair.kws K) (d_w_is_pair.loc K) fd := T.says.fun_ 27 (d := d_w_is_pair) rfl
theorem Tx.f_w_sign (T : Tx K mg base) : ∃ fd, FunD K d_w_sign.name d_w_sign.qual (defArgs s_w_sign) (defBody s_w_sign) (defScope s_w_sign) (d_w_sign.dvs K) (d_w_sign.kws K) (d_w_sign.loc K) fd := T.says.fun_ 28 (d := d_w_sign) rfl
theorem Tx.f_w_two_right (T : Tx K mg base) : ∃ fd, FunD K d_w_two_right.name d_w_two_right.qual (defArgs s_w_two_right) (defBody s_w_two_right) (defScope s_w_two_right) (d_w_two_right.dvs K) (d_w_two_right.kws K) (d_w_two_right.loc K) fd := T.says.fun_ 29 (d := d_w_two_right) rfl
theorem Tx.f_w_told (T : Tx K mg base) : ∃ fd, FunD K d_w_told.name d_w_told.qual (defArgs s_w_told) (defBody s_w_told) (defScope s_w_told) (d_w_told.dvs K) (d_w_told.kws K) (d_w_told.loc K) fd := T.says.fun_ 30 (d := d_w_told) rfl
theorem Tx.f_w_made (T : Tx K mg base) : ∃ fd, FunD K d_w_made.name d_w_made.qual (defArgs s_w_made) (defBody s_w_made) (defScope s_w_made) (d_w_made.dvs K) (d_w_made.kws K) (d_w_made.loc K) fd := T.says.fun_ 31 (d := d_w_made) rfl
theorem Tx.f_w_refused (T : Tx K mg base) : ∃ fd, FunD K d_w_refused.name d_w_refused.qual (defArgs s_w_refused) (defBody s_w_refused) (defScope s_w_refused) (d_w_refused.dvs K) (d_w_refused.kws K) (d_w_refused.loc K) fd := T.says.fun_ 32 (d := d_w_refused) rfl
theorem Tx.f_w_all (T : Tx K mg base) : ∃ fd, FunD K d_w_all.name d_w_all.qual (defArgs s_w_all) (defBody s_w_all) (defScope s_w_all) (d_w_all.dvs K) (d_w_all.kws K) (d_w_all.loc K) fd := T.says.fun_ 33 (d := d_w_all) rfl
theorem Tx.f_w_many_right (T : Tx K mg base) : ∃ fd, FunD K d_w_many_right.name d_w_many_right.qual (defArgs s_w_many_right) (defBody s_w_many_right) (defScope s_w_many_right) (d_w_many_right.dvs K) (d_w_many_right.kws K) (d_w_many_right.loc K) fd := T.says.fun_ 34 (d := d_w_many_right) rfl
theorem Tx.f_w_none_right (T : Tx K mg base) : ∃ fd, FunD K d_w_none_right.name d_w_none_right.qual (defArgs s_w_none_right) (defBody s_w_none_right) (defScope s_w_none_right) (d_w_none_right.dvs K) (d_w_none_right.kws K) (d_w_none_right.loc K) fd := T.says.fun_ 35 (d := d_w_none_right) rfl
theorem Tx.f_law (T : Tx K mg base) : ∃ fd, FunD K d_law.name d_law.qual (defArgs s_law) (defBody s_law) (defScope s_law) (d_law.dvs K) (d_law.kws K) (d_law.loc K) fd := T.says.fun_ 36 (d := d_law) rfl
end
def nm0 : List PySem.Str := [("CueError" : PySem.Str), ("InvalidInteger" : PySem.Str), ("InvalidAmount" : PySem.Str), ("InvalidPart" : PySem.Str), ("is_whole" : PySem.Str), ("common_factor" : PySem.Str), ("Amount" : PySem.Str), ("is_amount" : PySem.Str), ("amount_from" : PySem.Str), ("total" : PySem.Str), ("extreme" : PySem.Str), ("least" : PySem.Str), ("greatest" : PySem.Str), ("_law_cell" : PySem.Str), ("_law_box" : PySem.Str), ("_law_take" : PySem.Str), ("_law_integer" : PySem.Str), ("_law_pair" : PySem.Str), ("_law_is_pair" : PySem.Str), ("_law_sign" : PySem.Str), ("_law_two_right" : PySem.Str), ("_law_told" : PySem.Str), ("_law_made" : PySem.Str), ("_law_refused" : PySem.Str), ("_law_all" : PySem.Str), ("_law_many_right" : PySem.Str), ("_law_none_right" : PySem.Str)]
def names : List PySem.Str := nm0
def lawAt : Nat := 31
end K02

set_option maxHeartbeats 0
namespace K02
open PySem PySem.W PySem.Calls PySem.Spec PyProof.Rows L2 AT
abbrev R : PySem.W.OpenRow := PySem.W.OpenLaw.row PySem.Challenge.rw_anytempo_k02_amounts_reckoned
abbrev hk : PySem.W.Hook := hookB 5 fn ex
def ob (s : PySem.W.SharedT) : AlA := obsBG 5 fn ex (HandSHeadRun.getT s)
theorem ob_eq (s : PySem.W.SharedT) : ob s = hk.obs s.abs := obsBG_eq (HandSHeadRun.getT_eq s)
theorem run_l (w : World) : ∀ os, (runE R 20000 w os).map (fun s => HandSHeadRun.looksF R.prog (boot_heap w.params) s.abs) = some true := by
  intro os
  kernel_rfl
theorem run_s (w : World) : ∀ os, (runE R 20000 w os).map (fun s => HandSHeadRun.seenQ (PySem.W.view R.prog [lawAt]) names (importedModules R.prog.main.body) (fun s => xlAt (PySem.W.view R.prog [lawAt]) [] s && recOk R.toRowW.records s) s.abs) = some (openGood (PySem.W.view R.prog [lawAt]) names) := by
  intro os
  kernel_rfl
theorem run_x0 (w : World) : ∀ os, (runE R 20000 w os).map (fun s => ((ex.drop (0 * 240)).take 240).all (fun e => e (KofT 5 s))) = some true := by
  intro os
  kernel_rfl
theorem run_f0 (w : World) : ∀ os, (runE R 20000 w os).map (fun s => (((fn.drop (0 * 110)).take 110).all (fun d => d.ok (KofT 5 s)), ((fn.drop (0 * 110)).take 110).map fun d => fobs (KofT 5 s) (d.loc (KofT 5 s)))) = some (true, ((fn.drop (0 * 110)).take 110).map FD.val) := by
  intro os
  kernel_rfl
theorem run (w : World) : HandSHeadRun.RunEq R (PySem.W.view R.prog [lawAt]) hk ob 20000 names w :=
  run_parts (n := 5) (m := 1) (c := 240) (m' := 1) (c' := 110) (run_l w) (run_s w) (fun k hk => match k, hk with | 0, _ => run_x0 w | k + 1, hk => absurd hk (by omega)) (fun k hk => match k, hk with | 0, _ => run_f0 w | k + 1, hk => absurd hk (by omega)) (by decide) (by decide)
end K02

set_option maxHeartbeats 4000000
namespace K02
open PySem PySem.Spec PyProof.Rows L2 AT
/-! ### values of any kind -/
abbrev cA (K : PySem.W.Frag) : Addr := He.ga K "Amount"
def amtF (n d : Int) : List (Str × V) := [("own_top", .int n), ("own_bottom", .int d)]
def amtQ (q : Rat) : List (Str × V) := amtF q.num q.den
/-- at p stands an amount of the value q -/
def IsQ (K : PySem.W.Frag) (H : Hp) (p : Addr) (q : Rat) : Prop := ∃ dx, H p = some (.ins (cA K) dx (amtQ q))
/-- another class of the program -/
structure OthC (K : PySem.W.Frag) (C : Addr) : Prop where
  ty : ∀ {H : Hp} {a dx : Addr} {fs : List (Str × V)}, H a = some (.ins C dx fs) → TyX K H (.ref a) (.ref C)
  int : PySem.W.kitOne K (.ref C) (.type "int") = some false
  bool : PySem.W.kitOne K (.ref C) (.type "bool") = some false
  lst : PySem.W.kitOne K (.ref C) (.type "list") = some false
  tup : PySem.W.kitOne K (.ref C) (.type "tuple") = some false
  str : PySem.W.kitOne K (.ref C) (.type "str") = some false
  amt : PySem.W.kitOne K (.ref C) (.ref (cA K)) = some false
  ne : C ≠ cA K
inductive AnyV (K : PySem.W.Frag) (H : Hp) : V → Prop where
  | non : AnyV K H .non
  | bl (b : Bool) : AnyV K H (.bl b)
  | int (i : Int) : AnyV K H (.int i)
  | str (x : Str) : AnyV K H (.str x)
  | lst {a : Addr} {xs : List V} (e : H a = some (.lst xs)) : AnyV K H (.ref a)
  | tup {a : Addr} {xs : List V} (e : H a = some (.tup xs)) : AnyV K H (.ref a)
  | dct {a : Addr} {kvs : List (Key × V)} (e : H a = some (.dK kvs)) : AnyV K H (.ref a)
  | amt {a : Addr} {q : Rat} (e : IsQ K H a q) : AnyV K H (.ref a)
  | oth {a C dx : Addr} {fs : List (Str × V)} (o : OthC K C) (e : H a = some (.ins C dx fs)) : AnyV K H (.ref a)
theorem AnyV.up {K : PySem.W.Frag} {H H' : Hp} {v : V} (h : AnyV K H v) (s : Same H H') : AnyV K H' v := by
  cases h with
  | non => exact .non
  | bl b => exact .bl b
  | int i => exact .int i
  | str x => exact .str x
  | lst e => exact .lst (s _ _ e)
  | tup e => exact .tup (s _ _ e)
  | dct e => exact .dct (s _ _ e)
  | amt e => exact .amt (e.imp fun _ z => s _ _ z)
  | oth o e => exact .oth o (s _ _ e)
def wholeV : V → Bool
  | .int _ => true
  | _ => false
def intV : V → Bool
  | .int _ => true
  | .bl _ => true
  | _ => false
def blV : V → Bool
  | .bl _ => true
  | _ => false
def strV : V → Bool
  | .str _ => true
  | _ => false
section
variable {P : Program} {w : World} {K : PySem.W.Frag} {mg : Str → Option Value} {base : Heap}
theorem isi_int (T : Tx K mg base) {H : Hp} {v : V} (h : AnyV K H v) : ∃ t, TyX K H v t ∧ PySem.W.kitOne K t (.type "int") = some (intV v) := by
  cases h with
  | non  => exact ⟨_, .base .non, kit_ty (r := false) (by decide +kernel)⟩
  | bl b => exact ⟨_, .base (.bl b), kit_ty (r := true) (by decide +kernel)⟩
  | int i => exact ⟨_, .base (.int i), kit_ty (r := true) (by decide +kernel)⟩
  | str x => exact ⟨_, .base (.str x), kit_ty (r := false) (by decide +kernel)⟩
  | lst e => exact ⟨_, .base (.lst e), kit_ty (r := false) (by decide +kernel)⟩
  | tup e => exact ⟨_, .base (.tup e), kit_ty (r := false) (by decide +kernel)⟩
  | dct e => exact ⟨_, .base (.dK e), kit_ty (r := false) (by decide +kernel)⟩
  | amt e => obtain ⟨dx, e⟩ := e; exact ⟨_, T.ins_Amount e, T.k_Amount_int⟩
  | oth o e => exact ⟨_, o.ty e, o.int⟩
theorem isi_bool (T : Tx K mg base) {H : Hp} {v : V} (h : AnyV K H v) : ∃ t, TyX K H v t ∧ PySem.W.kitOne K t (.type "bool") = some (blV v) := by
  cases h with
  | non  => exact ⟨_, .base .non, kit_ty (r := false) (by decide +kernel)⟩
  | bl b => exact ⟨_, .base (.bl b), kit_ty (r := true) (by decide +kernel)⟩
  | int i => exact ⟨_, .base (.int i), kit_ty (r := false) (by decide +kernel)⟩
  | str x => exact ⟨_, .base (.str x), kit_ty (r := false) (by decide +kernel)⟩
  | lst e => exact ⟨_, .base (.lst e), kit_ty (r := false) (by decide +kernel)⟩
  | tup e => exact ⟨_, .base (.tup e), kit_ty (r := false) (by decide +kernel)⟩
  | dct e => exact ⟨_, .base (.dK e), kit_ty (r := false) (by decide +kernel)⟩
  | amt e => obtain ⟨dx, e⟩ := e; exact ⟨_, T.ins_Amount e, T.k_Amount_bool⟩
  | oth o e => exact ⟨_, o.ty e, o.bool⟩
/-- the type, as the operators ask for it -/
theorem IsQ.ofTy (T : Tx K mg base) {H : Hp} {a : Addr} {q : Rat} (h : IsQ K H a q) : OfTy K H (cA K) (.ref a) := by
  obtain ⟨dx, e⟩ := h
  exact ⟨_, T.ins_Amount e, .inl rfl⟩
/-! ### the exceptions -/
theorem ok_InvalidInteger_init_ (T : Tx K mg base) : Ok P w K mg base 1 (He.ma K (He.ga K "InvalidInteger") "__init__") ["self", "value"] (spXi K (He.ga K "InvalidInteger") "value") := by
  refine mk_ok (N := ["self", "value"]) T.f_InvalidInteger_init_ ⟨rfl, rfl, rfl, by decide +kernel, rfl, by decide +kernel, by decide +kernel⟩ (fun _ _ _ _ _ _ us hl => match us, hl with | [_, _], _ => rfl) (fun vs H Q E h => ?_) (fun cdv A outer s H vs Q E hr h => ?_)
  · obtain ⟨a, v, rfl, _⟩ := h
    rfl
  · exact ⟨_, pss_cons (ps_expr (pe_cinit T.ba_CueError rfl T.g_CueError (pa_cons (pv 0) (pa_cons pe_str pa_nil)))) (pss_one (ps_ost (pv 0) (pv 1))), xi_reading rfl vs H Q E h⟩
theorem mx_InvalidInteger {X : Cx} (T : Tx X.K X.mg X.base) (hr : Room 2 X.A) : MkX X "InvalidInteger" "value" := mk_X T.xc_InvalidInteger T.g_InvalidInteger (ok_InvalidInteger_init_ T) hr
theorem ok_InvalidAmount_init_ (T : Tx K mg base) : Ok P w K mg base 1 (He.ma K (He.ga K "InvalidAmount") "__init__") ["self", "value"] (spXi K (He.ga K "InvalidAmount") "value") := by
  refine mk_ok (N := ["self", "value"]) T.f_InvalidAmount_init_ ⟨rfl, rfl, rfl, by decide +kernel, rfl, by decide +kernel, by decide +kernel⟩ (fun _ _ _ _ _ _ us hl => match us, hl with | [_, _], _ => rfl) (fun vs H Q E h => ?_) (fun cdv A outer s H vs Q E hr h => ?_)
  · obtain ⟨a, v, rfl, _⟩ := h
    rfl
  · exact ⟨_, pss_cons (ps_expr (pe_cinit T.ba_CueError rfl T.g_CueError (pa_cons (pv 0) (pa_cons pe_str pa_nil)))) (pss_one (ps_ost (pv 0) (pv 1))), xi_reading rfl vs H Q E h⟩
theorem mx_InvalidAmount {X : Cx} (T : Tx X.K X.mg X.base) (hr : Room 2 X.A) : MkX X "InvalidAmount" "value" := mk_X T.xc_InvalidAmount T.g_InvalidAmount (ok_InvalidAmount_init_ T) hr
theorem ok_InvalidPart_init_ (T : Tx K mg base) : Ok P w K mg base 1 (He.ma K (He.ga K "InvalidPart") "__init__") ["self", "value"] (spXi K (He.ga K "InvalidPart") "value") := by
  refine mk_ok (N := ["self", "value"]) T.f_InvalidPart_init_ ⟨rfl, rfl, rfl, by decide +kernel, rfl, by decide +kernel, by decide +kernel⟩ (fun _ _ _ _ _ _ us hl => match us, hl with | [_, _], _ => rfl) (fun vs H Q E h => ?_) (fun cdv A outer s H vs Q E hr h => ?_)
  · obtain ⟨a, v, rfl, _⟩ := h
    rfl
  · exact ⟨_, pss_cons (ps_expr (pe_cinit T.ba_CueError rfl T.g_CueError (pa_cons (pv 0) (pa_cons pe_str pa_nil)))) (pss_one (ps_ost (pv 0) (pv 1))), xi_reading rfl vs H Q E h⟩
theorem mx_InvalidPart {X : Cx} (T : Tx X.K X.mg X.base) (hr : Room 2 X.A) : MkX X "InvalidPart" "value" := mk_X T.xc_InvalidPart T.g_InvalidPart (ok_InvalidPart_init_ T) hr
/-- what is raised: a new exception of the class x whose field f is v -/
def Rf (K : PySem.W.Frag) (x f : Str) (v : V) (H : Hp) (E : XK) : Prop := ∀ H' d, Same H H' → H d = none → H' d = some (.xd [(f, v)]) → E (.ref (He.ga K x)) (some d) H'
theorem rf_of {K : PySem.W.Frag} {x f : Str} {v : V} {H : Hp} {E : XK} (h : Rf K x f v H E) : ∀ d, H d = none → E (.ref (He.ga K x)) (some d) (upd H d (.xd [(f, v)])) := fun d hd =>
  h _ d (fun b o e => by rw [upd_ne (ne_of_none e hd)]; exact e) hd upd_same
theorem Rf.up {K : PySem.W.Frag} {x f : Str} {v : V} {H H1 : Hp} {E : XK} (h : Rf K x f v H E) (s : Same H H1) : Rf K x f v H1 E := fun H' d s2 hd hx => h H' d (s.trans s2) (by
  cases q : H d with
  | none => rfl
  | some o => rw [s _ _ q] at hd; cases hd) hx
/-! ### is_whole -/
def spWhole (K : PySem.W.Frag) : Sp := fun vs H Q _ => ∃ v, vs = [v] ∧ AnyV K H v ∧ Q (.bl (wholeV v)) H
theorem sc_is_whole : FnScope ["value"] ["value"] (defScope s_is_whole) := ⟨rfl, rfl, rfl, by decide +kernel, rfl, by decide +kernel, by decide +kernel⟩
theorem ok_is_whole (T : Tx K mg base) : Ok P w K mg base 1 (d_is_whole.loc K) ["value"] (spWhole K) := by
  refine mk_ok (k := 0) T.f_is_whole sc_is_whole (fun _ _ _ _ _ _ us hl => match us, hl with | [_], _ => rfl) (fun vs H Q E h => ?_) (fun cdv A outer s H vs Q E hr h => ?_)
  · obtain ⟨v, rfl, _⟩ := h
    rfl
  · obtain ⟨v, rfl, hv, k⟩ := h
    refine ⟨_, (pss_one (ps_ret (pe_and (pe_callB call_isi (by rfl) T.b_isinstance (by decide +kernel) (pa_cons (pv 0) (pa_cons (pe_bltn (v := .ty "int") rfl T.b_int (by decide +kernel) rfl) pa_nil))) (pe_one (pe_not (pe_callB call_isi (by rfl) T.b_isinstance (by decide +kernel) (pa_cons (pv 0) (pa_cons (pe_bltn (v := .ty "bool") rfl T.b_bool (by decide +kernel) rfl) pa_nil)))))))), ?_⟩
    obtain ⟨t1, y1, q1⟩ := isi_int T hv
    obtain ⟨t2, y2, q2⟩ := isi_bool T hv
    refine ⟨_, rfl, _, _, _, _, _, rfl, .ty _, y1, q1, _, rfl, ?_⟩
    cases hv with
    | bl b => exact ⟨_, rfl, _, _, _, _, _, rfl, .ty _, y2, q2, _, rfl, k⟩
    | int i => exact ⟨_, rfl, _, _, _, _, _, rfl, .ty _, y2, q2, _, rfl, k⟩
    | _ => exact k
/-! ### common_factor -/
def spGcd : Sp := fun vs H Q _ => ∃ a b : Int, vs = [.int a, .int b] ∧ 0 ≤ a ∧ 0 ≤ b ∧ Q (.int (Int.gcd a b : Nat)) H
theorem gcd_turn {a b : Int} (ha : 0 ≤ a) (hb : 0 < b) : Int.gcd b (a % b) = Int.gcd a b := by
  obtain ⟨n, rfl⟩ := Int.eq_ofNat_of_zero_le ha
  obtain ⟨m, rfl⟩ := Int.eq_ofNat_of_zero_le (Int.le_of_lt hb)
  have e : (n : Int) % (m : Int) = ((n % m : Nat) : Int) := by simp
  show Nat.gcd (Int.natAbs (m : Int)) (Int.natAbs ((n : Int) % (m : Int))) = Nat.gcd (Int.natAbs (n : Int)) (Int.natAbs (m : Int))
  rw [e, Int.natAbs_natCast, Int.natAbs_natCast, Int.natAbs_natCast, Nat.gcd_comm m, ← Nat.gcd_rec, Nat.gcd_comm]
theorem sc_common_factor : FnScope ["one", "other"] ["one", "other"] (defScope s_common_factor) := ⟨rfl, rfl, rfl, by decide +kernel, rfl, by decide +kernel, by decide +kernel⟩
theorem ok_common_factor (T : Tx K mg base) : Ok P w K mg base 1 (d_common_factor.loc K) ["one", "other"] spGcd := by
  refine mk_ok (k := 0) T.f_common_factor sc_common_factor (fun _ _ _ _ _ _ us hl => match us, hl with | [_, _], _ => rfl) (fun vs H Q E h => ?_) (fun cdv A outer s H vs Q E hr h => ?_)
  · obtain ⟨a, b, rfl, _⟩ := h
    rfl
  · obtain ⟨a, b, rfl, ha, hb, k⟩ := h
    refine ⟨_, (pss_cons (ps_while (passes_of rfl) (pt_cmpR op_gt (pv 1) pe_int (nomark _)) (pss_one (ps_par (by rfl) sc_common_factor.nd (i := 0) (j := 1) rfl rfl (by decide) rfl rfl (pa_cons (pv 1) (pa_cons (pe_op op_mod (pv 0) (pv 1)) pa_nil)) (by rfl))))
      (pss_one (ps_ret (pv 0)))), ?_⟩
    refine ⟨fun m σ H' => ∃ a' b' : Int, σ = [some (.int a'), some (.int b')] ∧ H' = H ∧ 0 ≤ a' ∧ 0 ≤ b' ∧ Int.gcd a' b' = Int.gcd a b ∧ m = b'.toNat, ⟨_, a, b, rfl, rfl, ha, hb, rfl, rfl⟩, ?_⟩
    rintro m σ H' ⟨a', b', rfl, rfl, ha', hb', hg, rfl⟩
    refine ⟨_, rfl, _, _, rfl, rfl, _, rfl, ?_⟩
    refine ite2 (fun h1 => ?_) (fun h1 => ?_)
    · have h1' : 0 < b' := of_decide_eq_true h1
      refine ⟨fun σ2 H2 => ∃ a2 b2 : Int, σ2 = [some (.int a2), some (.int b2)] ∧ H2 = H' ∧ 0 ≤ a2 ∧ 0 ≤ b2 ∧ Int.gcd a2 b2 = Int.gcd a b ∧ b2 < b', ?_, ?_⟩
      · rintro σ2 H2 ⟨a2, b2, rfl, rfl, h2, h3, h4, h5⟩
        exact ⟨b2.toNat, by omega, a2, b2, rfl, rfl, h2, h3, h4, rfl⟩
      · refine ⟨_, rfl, _, rfl, _, rfl, _, _, rfl, rfl, h1', _, _, rfl, ?_⟩
        exact ⟨b', a' % b', rfl, rfl, hb', Int.emod_nonneg _ (by omega), by rw [gcd_turn ha' h1', hg], Int.emod_lt_of_pos _ h1'⟩
    · have h0 : b' = 0 := by
        have := of_decide_eq_false (by simpa using h1 : decide (0 < b') = false)
        omega
      subst h0
      refine ⟨_, rfl, ?_⟩
      have e : (Int.gcd a b : Int) = a' := by rw [← hg, Int.gcd_zero_right]; omega
      rw [e] at k
      exact k
end
end K02

set_option maxHeartbeats 4000000
namespace K02
open PySem PySem.Spec PyProof.Rows L2 AT
/-! ### lowest terms, as the rationals have them -/
def fac (t b : Int) : Int := if b < 0 then -(Int.gcd t b : Nat) else (Int.gcd t b : Nat)
theorem gcd_pos {t b : Int} (h : b ≠ 0) : 0 < Int.gcd t b := Int.gcd_pos_of_ne_zero_right t h
theorem gcd_le {t b : Int} (h : b ≠ 0) : Int.gcd t b ≤ b.natAbs := Nat.le_of_dvd (Int.natAbs_pos.mpr h) (Int.gcd_dvd_natAbs_right t b)
theorem low_num {t b : Int} (h : b ≠ 0) : t.fdiv (fac t b) = (Rat.divInt t b).num := by
  rw [Rat.num_divInt, Int.gcd_comm b t]
  have hg := gcd_pos (t := t) h
  obtain ⟨c, hc⟩ := Int.gcd_dvd_left t b
  unfold fac
  generalize Int.gcd t b = g at hg hc ⊢
  subst hc
  have g0 : (g : Int) ≠ 0 := by omega
  split
  · rename_i hb
    rw [Int.sign_eq_neg_one_of_neg hb, show ((g : Int) * c) = (-(g : Int)) * (-c) by rw [Int.neg_mul_neg], Int.mul_fdiv_cancel_left _ (by omega), show (-1 * (-(g : Int) * -c)) = (g : Int) * (-c) by rw [Int.neg_mul_neg, Int.mul_neg, Int.neg_one_mul], Int.mul_ediv_cancel_left _ g0]
  · have hb : 0 < b := by omega
    rw [Int.sign_eq_one_of_pos hb, Int.one_mul, Int.mul_fdiv_cancel_left _ g0, Int.mul_ediv_cancel_left _ g0]
theorem low_den {t b : Int} (h : b ≠ 0) : b.fdiv (fac t b) = ((Rat.divInt t b).den : Int) := by
  rw [Rat.den_divInt, if_neg h, Int.gcd_comm b t]
  have hg := gcd_pos (t := t) h
  obtain ⟨c, hc⟩ := Int.gcd_dvd_right t b
  unfold fac
  generalize Int.gcd t b = g at hg hc ⊢
  subst hc
  have g0 : (g : Int) ≠ 0 := by omega
  have e : ((g : Int) * c).natAbs / g = c.natAbs := by rw [Int.natAbs_mul, Int.natAbs_natCast, Nat.mul_div_cancel_left _ hg]
  rw [e]
  split
  · rename_i hb
    rw [show ((g : Int) * c) = (-(g : Int)) * (-c) by rw [Int.neg_mul_neg], Int.mul_fdiv_cancel_left _ (by omega)]
    have : c < 0 := by
      rcases Int.lt_or_le c 0 with z | z
      · exact z
      · have := Int.mul_nonneg (show (0 : Int) ≤ g by omega) z
        omega
    omega
  · rw [Int.mul_fdiv_cancel_left _ g0]
    have : 0 ≤ c := by
      rcases Int.lt_or_le c 0 with z | z
      · have := Int.mul_neg_of_pos_of_neg (show (0 : Int) < g by omega) z
        omega
      · exact z
    omega
theorem den_ne (q : Rat) : (q.den : Int) ≠ 0 := by have := q.den_nz; omega
theorem q_self (q : Rat) : Rat.divInt q.num q.den = q := Rat.num_divInt_den q
theorem q_add (x y : Rat) : Rat.divInt (x.num * y.den + y.num * x.den) (x.den * y.den) = x + y := by
  rw [← Rat.divInt_add_divInt _ _ (den_ne x) (den_ne y), q_self, q_self]
theorem q_neg (x : Rat) : Rat.divInt (-x.num) x.den = -x := by
  rw [← Rat.neg_divInt, q_self]
theorem q_sub (x y : Rat) : Rat.divInt (x.num * y.den - y.num * x.den) (x.den * y.den) = x - y := by
  have h := Rat.divInt_add_divInt x.num (-y.num) (den_ne x) (den_ne y)
  rw [q_self, q_neg] at h
  rw [Rat.sub_eq_add_neg, h, Int.neg_mul, Int.sub_eq_add_neg]
theorem q_mul (x y : Rat) : Rat.divInt (x.num * y.num) (x.den * y.den) = x * y := by
  rw [← Rat.divInt_mul_divInt, q_self, q_self]
theorem q_div (x y : Rat) : Rat.divInt (x.num * y.den) (x.den * y.num) = x / y := by
  rw [← Rat.divInt_mul_divInt, q_self, Rat.div_def, Rat.inv_def]
theorem q_int (i : Int) : Rat.divInt i 1 = (i : Rat) := by
  rw [Rat.divInt_eq_div]
  have : (1 : Rat)⁻¹ = 1 := by decide +kernel
  simp [Rat.div_def, this]
theorem num_ne {y : Rat} (h : y ≠ 0) : y.num ≠ 0 := fun z => h (Rat.num_eq_zero.mp z)
/-- small enough: k bits above and below -/
def Bits (k : Nat) (q : Rat) : Prop := q.num.natAbs < 2 ^ k ∧ q.den < 2 ^ k
theorem Bits.mono {k j : Nat} {q : Rat} (h : Bits k q) (l : k ≤ j) : Bits j q := ⟨Nat.lt_of_lt_of_le h.1 (Nat.pow_le_pow_right (by decide) l), Nat.lt_of_lt_of_le h.2 (Nat.pow_le_pow_right (by decide) l)⟩
theorem bits_of {k : Nat} {t b : Int} (hb : b ≠ 0) (h1 : t.natAbs < 2 ^ k) (h2 : b.natAbs < 2 ^ k) : Bits k (Rat.divInt t b) := by
  have g0 := gcd_pos (t := t) hb
  constructor
  · rw [Rat.num_divInt, Int.gcd_comm b t]
    obtain ⟨c, hc⟩ := Int.gcd_dvd_left t b
    generalize Int.gcd t b = g at g0 hc ⊢
    subst hc
    have e : b.sign * ((g : Int) * c) / g = b.sign * c := by
      rw [show b.sign * ((g : Int) * c) = (g : Int) * (b.sign * c) by rw [← Int.mul_assoc, Int.mul_comm b.sign, Int.mul_assoc], Int.mul_ediv_cancel_left _ (by omega)]
    rw [e]
    refine Nat.lt_of_le_of_lt ?_ h1
    rw [Int.natAbs_mul, Int.natAbs_mul, Int.natAbs_natCast]
    have : b.sign.natAbs ≤ 1 := by
      rw [Int.natAbs_sign]
      split <;> omega
    calc b.sign.natAbs * c.natAbs ≤ 1 * c.natAbs := Nat.mul_le_mul_right _ this
      _ ≤ g * c.natAbs := Nat.mul_le_mul_right _ g0
  · rw [Rat.den_divInt, if_neg hb]
    exact Nat.lt_of_le_of_lt (Nat.div_le_self _ _) h2
theorem mul_bits {i j : Int} {a b : Nat} (ha : i.natAbs < 2 ^ a) (hb : j.natAbs < 2 ^ b) : (i * j).natAbs < 2 ^ (a + b) := by
  rw [Int.natAbs_mul, Nat.pow_add]
  exact Nat.mul_lt_mul'' ha hb
theorem den_bits {k : Nat} {q : Rat} (h : Bits k q) : ((q.den : Int)).natAbs < 2 ^ k := by
  rw [Int.natAbs_natCast]
  exact h.2
theorem Bits.add {a b : Nat} {x y : Rat} (h : Bits a x) (g : Bits b y) : Bits (a + b + 1) (x + y) := by
  rw [← q_add]
  have h1 := mul_bits h.1 (den_bits g)
  have h2 := mul_bits g.1 (den_bits h)
  have h3 := mul_bits (den_bits h) (den_bits g)
  rw [Nat.add_comm b a] at h2
  refine bits_of (Int.mul_ne_zero (den_ne x) (den_ne y)) ?_ ?_
  · rw [Nat.pow_succ]
    omega
  · rw [Nat.pow_succ]
    omega
theorem Bits.sub {a b : Nat} {x y : Rat} (h : Bits a x) (g : Bits b y) : Bits (a + b + 1) (x - y) := by
  rw [← q_sub]
  have h1 := mul_bits h.1 (den_bits g)
  have h2 := mul_bits g.1 (den_bits h)
  have h3 := mul_bits (den_bits h) (den_bits g)
  rw [Nat.add_comm b a] at h2
  refine bits_of (Int.mul_ne_zero (den_ne x) (den_ne y)) ?_ ?_
  · rw [Nat.pow_succ]
    omega
  · rw [Nat.pow_succ]
    omega
theorem Bits.mul {a b : Nat} {x y : Rat} (h : Bits a x) (g : Bits b y) : Bits (a + b) (x * y) := by
  rw [← q_mul]
  exact bits_of (Int.mul_ne_zero (den_ne x) (den_ne y)) (mul_bits h.1 g.1) (mul_bits (den_bits h) (den_bits g))
theorem Bits.div {a b : Nat} {x y : Rat} (h : Bits a x) (g : Bits b y) (hy : y ≠ 0) : Bits (a + b) (x / y) := by
  rw [← q_div]
  exact bits_of (Int.mul_ne_zero (den_ne x) (num_ne hy)) (mul_bits h.1 (den_bits g)) (mul_bits (den_bits h) g.1)
section
variable {P : Program} {w : World} {K : PySem.W.Frag} {mg : Str → Option Value} {base : Heap}
theorem IsQ.up {H H' : Hp} {p : Addr} {q : Rat} (h : IsQ K H p q) (s : Same H H') : IsQ K H' p q := h.imp fun _ e => s _ _ e
theorem IsQ.inj {H : Hp} {p : Addr} {x y : Rat} (h : IsQ K H p x) (g : IsQ K H p y) : x = y := by
  obtain ⟨d, e⟩ := h
  obtain ⟨d', e'⟩ := g
  rw [e] at e'
  simp only [Option.some.injEq, HO.ins.injEq, amtQ, amtF, List.cons.injEq, Prod.mk.injEq, V.int.injEq, and_true, true_and] at e'
  exact Rat.ext e'.2.1 (by have := e'.2.2; omega)
theorem abs_gcd (t b : Int) : Int.gcd (if t < 0 then -t else t) (if b < 0 then -b else b) = Int.gcd t b := by
  have e : ∀ x : Int, (if x < 0 then -x else x).natAbs = x.natAbs := fun x => by split <;> simp
  show Nat.gcd _ _ = Nat.gcd _ _
  rw [e, e]
def badB : V → Bool
  | .int d => decide (d = 0)
  | _ => true
/-- Amount.__init__ -/
def spAmt (K : PySem.W.Frag) : Sp := fun vs H Q E => ∃ p dx t b, vs = [.ref p, t, b] ∧ H p = some (.ins (cA K) dx []) ∧ AnyV K H t ∧ AnyV K H b ∧
  ((∃ n d : Int, t = .int n ∧ b = .int d ∧ d ≠ 0 ∧ d.natAbs < 2 ^ 8000 ∧ Q .non (upd H p (.ins (cA K) dx (amtQ (Rat.divInt n d))))) ∨
    (wholeV t = false ∧ Rf K "InvalidInteger" "value" t H E) ∨ (wholeV t = true ∧ badB b = true ∧ Rf K "InvalidInteger" "value" b H E))
theorem log_lt {n k : Nat} (hk : 0 < k) (h : n < 2 ^ k) : n.log2 < k := PySem.Flt.log2_lt_of hk h
theorem sc_Amount_init_ : FnScope ["self", "top", "bottom", "factor"] ["self", "top", "bottom"] (defScope s_Amount_init_) := ⟨rfl, rfl, rfl, by decide +kernel, rfl, by decide +kernel, by decide +kernel⟩
theorem both_Amount (T : Tx K mg base) : Ok P w K mg base 3 (He.ma K (He.ga K "Amount") "__init__") ["self", "top", "bottom"] (spAmt K) ∧ OkD P w K mg base 3 (He.ma K (He.ga K "Amount") "__init__") ["self", "top", "bottom"] [.int 1] (spAmt K) := by
  refine mk_okD1 (k := 2) (n := 2) T.f_Amount_init_ sc_Amount_init_ rfl (fun _ _ _ _ _ _ _ us u hl => match us, hl with | [_, _], _ => ⟨_, rfl, rfl⟩) (fun _ _ _ _ _ _ _ us u hl => match us, hl with | [_, _, _], _ => ⟨_, rfl, rfl⟩) (fun vs H Q E h => ?_) (fun cdv A outer s H vs Q E hr h => ?_)
  · obtain ⟨p, dx, t, b, rfl, _⟩ := h
    rfl
  · obtain ⟨p, dx, t, b, rfl, hp, ht, hb, hc⟩ := h
    refine ⟨_, (pss_cons (ps_if (pt_not (pt_val (ok_call (ok_is_whole T) (hr.mono (by decide)) rfl T.g_is_whole passL (pa_cons (pv 1) pa_nil)))) (pss_one (ps_rs rfl (mx_InvalidInteger T (hr.mono (by decide))) (takes_of rfl rfl rfl rfl) rfl (pv 1))) pss_nil)
      (pss_cons (ps_if (PW.pt (pw_or (pt_not (pt_val (ok_call (ok_is_whole T) (hr.mono (by decide)) rfl T.g_is_whole passL (pa_cons (pv 2) pa_nil)))) (pw_or1 (pt_cmpR op_eq (pv 2) pe_int (nomark _))))) (pss_one (ps_rs rfl (mx_InvalidInteger T (hr.mono (by decide))) (takes_of rfl rfl rfl rfl) rfl (pv 2))) pss_nil)
      (pss_cons (ps_set (i := 3) sc_Amount_init_.nd rfl (Or.inl rfl) (ok_call (ok_common_factor T) (hr.mono (by decide)) rfl T.g_common_factor passL (pa_cons (pe_callB call_abs (by rfl) T.b_abs (by decide +kernel) (pa_cons (pv 1) pa_nil)) (pa_cons (pe_callB call_abs (by rfl) T.b_abs (by decide +kernel) (pa_cons (pv 2) pa_nil)) pa_nil))))
      (pss_cons (ps_if (pt_cmpR op_lt (pv 2) pe_int (nomark _)) (pss_one (ps_set (i := 3) sc_Amount_init_.nd rfl (Or.inl rfl) (pe_un un_neg (pv 3)))) pss_nil)
      (pss_cons (ps_fld (pv 0) (pe_op op_fdivZ (pv 1) (pv 3)) rfl)
      (pss_one (ps_fld (pv 0) (pe_op op_fdivZ (pv 2) (pv 3)) rfl))))))), ?_⟩
    refine ⟨_, rfl, t, rfl, ht, _, rfl, ?_⟩
    rcases hc with ⟨n, d, rfl, rfl, h0, hbig, k3⟩ | ⟨e, k1⟩ | ⟨e, eb, k2⟩
    · refine iteF ⟨_, rfl, .int d, rfl, hb, _, rfl, iteF ⟨_, rfl, rfl, _, rfl, ?_⟩⟩
      rw [decide_eq_false (fun q => h0 (V.int.inj q))]
      refine iteF ⟨_, rfl, n, rfl, _, rfl, d, rfl, _, _, rfl, (by split <;> omega), (by split <;> omega), ?_⟩
      rw [abs_gcd]
      have key : ∀ f : Int, f = fac n d → f ≠ 0 → f.natAbs.log2 < 9000 → ∀ σ, σ = ([some (.ref p), some (.int n), some (.int d), some (.int f)] : L2.St) →
          tSeq (sFld K (tVar 0) (tOp (rI CDivZ fun i j => .int (i.fdiv j)) (tVar 1) (tVar 3)) "own_top") (sFld K (tVar 0) (tOp (rI CDivZ fun i j => .int (i.fdiv j)) (tVar 2) (tVar 3)) "own_bottom") { nx := fun _ H' => Q .non H', rt := Q } σ H := by
        rintro f rfl hf hl σ rfl
        refine ⟨_, rfl, _, rfl, _, _, rfl, rfl, ⟨hf, hl⟩, _, rfl, p, _, dx, _, rfl, hp, T.cls_Amount, T.no_Amount_own_top, (by decide), ?_⟩
        refine ⟨_, rfl, _, rfl, _, _, rfl, rfl, ⟨hf, hl⟩, _, rfl, p, _, dx, _, rfl, upd_same, T.cls_Amount, T.no_Amount_own_bottom, (by show 1 < 1000; decide), ?_⟩
        rw [upd_upd]
        show Q .non (upd H p (.ins (cA K) dx (amtF (n.fdiv (fac n d)) (d.fdiv (fac n d)))))
        rw [low_num h0, low_den h0]
        exact k3
      have hg := gcd_pos (t := n) h0
      have hle := gcd_le (t := n) h0
      have hlog : (Int.gcd n d).log2 < 9000 := log_lt (by decide) (Nat.lt_of_le_of_lt hle (Nat.lt_trans hbig (Nat.pow_lt_pow_right (by decide) (by decide))))
      refine ⟨_, rfl, _, _, rfl, rfl, _, rfl, ?_⟩
      refine ite2 (fun h1 => ?_) (fun h1 => ?_)
      · have h1' : d < 0 := of_decide_eq_true h1
        refine ⟨_, rfl, _, rfl, ?_⟩
        exact key (-(Int.gcd n d : Nat)) (by unfold fac; rw [if_pos h1']) (by omega) (by rw [Int.natAbs_neg, Int.natAbs_natCast]; exact hlog) _ rfl
      · have h1' : ¬ d < 0 := of_decide_eq_false (by simpa using h1)
        exact key (Int.gcd n d : Nat) (by unfold fac; rw [if_neg h1']) (by omega) (by rw [Int.natAbs_natCast]; exact hlog) _ rfl
    · rw [e]
      exact iteT ⟨_, rfl, mk_at T.xc_InvalidInteger.oex T.xc_InvalidInteger.no (rf_of k1)⟩
    · rw [e]
      refine iteF ⟨_, rfl, b, rfl, hb, _, rfl, ?_⟩
      cases hb with
      | int d =>
        have h0 : d = 0 := of_decide_eq_true eb
        subst h0
        refine iteF ⟨_, rfl, rfl, _, rfl, ?_⟩
        rw [decide_eq_true rfl]
        exact iteT ⟨_, rfl, mk_at T.xc_InvalidInteger.oex T.xc_InvalidInteger.no (rf_of k2)⟩
      | _ => exact iteT (iteT ⟨_, rfl, mk_at T.xc_InvalidInteger.oex T.xc_InvalidInteger.no (rf_of k2)⟩)
theorem ok_Amount_init_ (T : Tx K mg base) : Ok P w K mg base 3 (He.ma K (He.ga K "Amount") "__init__") ["self", "top", "bottom"] (spAmt K) := (both_Amount T).1
theorem okd_Amount_init_ (T : Tx K mg base) : OkD P w K mg base 3 (He.ma K (He.ga K "Amount") "__init__") ["self", "top", "bottom"] [.int 1] (spAmt K) := (both_Amount T).2
theorem made_same {H : Hp} {x dx : Addr} {o1 o2 : HO} (hx : H x = none) (hdx : H dx = none) : Same H (upd (upd (upd H dx (.own x)) x o1) x o2) := AT.Same.new (AT.Same.new (AT.Same.up hdx) hx) hx
end
end K02

set_option maxHeartbeats 4000000
namespace K02
open PySem PySem.Spec PyProof.Rows L2 AT
/-! ### amounts: what a value stands for -/
inductive Qv (K : PySem.W.Frag) (H : Hp) : V → Rat → Prop where
  | obj {a : Addr} {q : Rat} (h : IsQ K H a q) : Qv K H (.ref a) q
  | int (i : Int) : Qv K H (.int i) (i : Rat)
theorem Qv.up {K : PySem.W.Frag} {H H' : Hp} {v : V} {q : Rat} (h : Qv K H v q) (s : Same H H') : Qv K H' v q := by
  cases h with
  | obj h => exact .obj (h.up s)
  | int i => exact .int i
theorem Qv.any {K : PySem.W.Frag} {H : Hp} {v : V} {q : Rat} (h : Qv K H v q) : AnyV K H v := by
  cases h with
  | obj h => exact .amt h
  | int i => exact .int i
def isA (K : PySem.W.Frag) (H : Hp) (v : V) : Prop := ∃ q, Qv K H v q
section
variable {P : Program} {w : World} {K : PySem.W.Frag} {mg : Str → Option Value} {base : Heap}
theorem isi_amt (T : Tx K mg base) {H : Hp} {v : V} (h : AnyV K H v) : ∃ t b, TyX K H v t ∧ PySem.W.kitOne K t (.ref (cA K)) = some b ∧ ((b = true ∧ ∃ a q, v = .ref a ∧ IsQ K H a q) ∨ (b = false ∧ ((∃ i, v = .int i) ∨ (wholeV v = false ∧ ¬ isA K H v)))) := by
  have no : ∀ {a : Addr} {o : HO}, H a = some o → (∀ d fs, o ≠ .ins (cA K) d fs) → ¬ isA K H (.ref a) := by
    rintro a o e hn ⟨q, hq⟩
    cases hq with
    | obj h =>
      obtain ⟨d, z⟩ := h
      rw [e] at z
      cases z
      exact hn _ _ rfl
  cases h with
  | non => exact ⟨_, _, .base .non, T.k_NoneType_Amount, .inr ⟨rfl, .inr ⟨rfl, fun ⟨_, q⟩ => nomatch q⟩⟩⟩
  | bl b => exact ⟨_, _, .base (.bl b), T.k_bool_Amount, .inr ⟨rfl, .inr ⟨rfl, fun ⟨_, q⟩ => nomatch q⟩⟩⟩
  | int i => exact ⟨_, _, .base (.int i), T.k_int_Amount, .inr ⟨rfl, .inl ⟨i, rfl⟩⟩⟩
  | str x => exact ⟨_, _, .base (.str x), T.k_str_Amount, .inr ⟨rfl, .inr ⟨rfl, fun ⟨_, q⟩ => nomatch q⟩⟩⟩
  | lst e => exact ⟨_, _, .base (.lst e), T.k_list_Amount, .inr ⟨rfl, .inr ⟨rfl, no e fun _ _ z => nomatch z⟩⟩⟩
  | tup e => exact ⟨_, _, .base (.tup e), T.k_tuple_Amount, .inr ⟨rfl, .inr ⟨rfl, no e fun _ _ z => nomatch z⟩⟩⟩
  | dct e => exact ⟨_, _, .base (.dK e), T.k_dict_Amount, .inr ⟨rfl, .inr ⟨rfl, no e fun _ _ z => nomatch z⟩⟩⟩
  | oth o e => exact ⟨_, _, o.ty e, o.amt, .inr ⟨rfl, .inr ⟨rfl, no e fun _ _ z => o.ne (by cases z; rfl)⟩⟩⟩
  | amt e =>
    obtain ⟨dx, e1⟩ := id e
    exact ⟨_, _, T.ins_Amount e1, T.k_Amount_Amount, .inl ⟨rfl, _, _, rfl, e⟩⟩
def spTop (K : PySem.W.Frag) : Sp := fun vs H Q _ => ∃ a q, vs = [.ref a] ∧ IsQ K H a q ∧ Q (.int q.num) H
def spBot (K : PySem.W.Frag) : Sp := fun vs H Q _ => ∃ a q, vs = [.ref a] ∧ IsQ K H a q ∧ Q (.int q.den) H
theorem sc_Amount_top : FnScope ["self"] ["self"] (defScope s_Amount_top) := ⟨rfl, rfl, rfl, by decide +kernel, rfl, by decide +kernel, by decide +kernel⟩
theorem ok_Amount_top (T : Tx K mg base) : Ok P w K mg base 1 (d_Amount_top.loc K) ["self"] (spTop K) := by
  refine mk_ok (k := 0) T.f_Amount_top sc_Amount_top (fun _ _ _ _ _ _ us hl => match us, hl with | [_], _ => rfl) (fun vs H Q E h => ?_) (fun cdv A outer s H vs Q E hr h => ?_)
  · obtain ⟨a, q, rfl, _⟩ := h
    rfl
  · obtain ⟨a, q, rfl, ⟨dx, ha⟩, k⟩ := h
    refine ⟨_, (pss_one (ps_ret (pe_fld (pv 0) rfl))), ?_⟩
    exact ⟨_, rfl, a, _, dx, _, _, rfl, ha, T.cls_Amount, T.no_Amount_own_top, rfl, k⟩
theorem sc_Amount_bottom : FnScope ["self"] ["self"] (defScope s_Amount_bottom) := ⟨rfl, rfl, rfl, by decide +kernel, rfl, by decide +kernel, by decide +kernel⟩
theorem ok_Amount_bottom (T : Tx K mg base) : Ok P w K mg base 1 (d_Amount_bottom.loc K) ["self"] (spBot K) := by
  refine mk_ok (k := 0) T.f_Amount_bottom sc_Amount_bottom (fun _ _ _ _ _ _ us hl => match us, hl with | [_], _ => rfl) (fun vs H Q E h => ?_) (fun cdv A outer s H vs Q E hr h => ?_)
  · obtain ⟨a, q, rfl, _⟩ := h
    rfl
  · obtain ⟨a, q, rfl, ⟨dx, ha⟩, k⟩ := h
    refine ⟨_, (pss_one (ps_ret (pe_fld (pv 0) rfl))), ?_⟩
    exact ⟨_, rfl, a, _, dx, _, _, rfl, ha, T.cls_Amount, T.no_Amount_own_bottom, rfl, k⟩
def spFrom (K : PySem.W.Frag) : Sp := fun vs H Q E => ∃ v, vs = [v] ∧ AnyV K H v ∧ ((∃ q, Qv K H v q ∧ ∀ p H', Same H H' → IsQ K H' p q → Q (.ref p) H') ∨ (wholeV v = false ∧ ¬ isA K H v ∧ Rf K "InvalidAmount" "value" v H E))
theorem sc_amount_from : FnScope ["value"] ["value"] (defScope s_amount_from) := ⟨rfl, rfl, rfl, by decide +kernel, rfl, by decide +kernel, by decide +kernel⟩
theorem ok_amount_from (T : Tx K mg base) : Ok P w K mg base 5 (d_amount_from.loc K) ["value"] (spFrom K) := by
  refine mk_ok (k := 4) T.f_amount_from sc_amount_from (fun _ _ _ _ _ _ us hl => match us, hl with | [_], _ => rfl) (fun vs H Q E h => ?_) (fun cdv A outer s H vs Q E hr h => ?_)
  · obtain ⟨v, rfl, _⟩ := h
    rfl
  · obtain ⟨v, rfl, hv, hc⟩ := h
    refine ⟨_, (pss_cons (ps_if (pt_val (pe_callB call_isi (by rfl) T.b_isinstance (by decide +kernel) (pa_cons (pv 0) (pa_cons (pe_gr T.g_Amount) pa_nil)))) (pss_one (ps_ret (pv 0))) pss_nil)
      (pss_cons (ps_if (pt_not (pt_val (ok_call (ok_is_whole T) (hr.mono (by decide)) rfl T.g_is_whole passL (pa_cons (pv 0) pa_nil)))) (pss_one (ps_rs rfl (mx_InvalidAmount T (hr.mono (by decide))) (takes_of rfl rfl rfl rfl) rfl (pv 0))) pss_nil)
      (pss_one (ps_ret (ok_makeD T.mkr_Amount (okd_Amount_init_ T) (hr.mono (by decide)) rfl T.g_Amount (passE rfl rfl rfl rfl) (pa_cons (pv 0) pa_nil)))))), ?_⟩
    obtain ⟨t, b, ty, kit, hb⟩ := isi_amt T hv
    refine ⟨_, rfl, _, _, _, _, _, rfl, .own _, ty, kit, _, rfl, ?_⟩
    rcases hc with ⟨q, hq, k⟩ | ⟨hw, hno, k⟩
    · rcases hb with ⟨rfl, a, q', rfl, ha⟩ | ⟨rfl, hi⟩
      · cases hq with
        | obj h => exact iteT ⟨_, rfl, k a H (Same.refl _) h⟩
      · refine iteF ⟨_, rfl, v, rfl, hv, _, rfl, ?_⟩
        rcases hi with ⟨i, rfl⟩ | ⟨_, hno⟩
        · refine iteF ⟨_, rfl, fun x dx hx hdx hne => ⟨x, dx, _, _, rfl, upd_same, .int _, .int _, .inl ⟨i, 1, rfl, rfl, by decide, by decide +kernel, rfl, ?_⟩⟩⟩
          cases hq
          refine k x _ (made_same hx hdx) ⟨dx, ?_⟩
          rw [upd_same, q_int]
          rfl
        · exact absurd ⟨q, hq⟩ hno
    · rcases hb with ⟨rfl, a, q', rfl, ha⟩ | ⟨rfl, hi⟩
      · exact absurd ⟨_, .obj ha⟩ hno
      · refine iteF ⟨_, rfl, v, rfl, hv, _, rfl, ?_⟩
        rw [hw]
        exact iteT ⟨_, rfl, mk_at T.xc_InvalidAmount.oex T.xc_InvalidAmount.no (rf_of k)⟩
def spIsA (K : PySem.W.Frag) : Sp := fun vs H Q _ => ∃ v, vs = [v] ∧ AnyV K H v ∧ (isA K H v → Q (.bl true) H) ∧ (¬ isA K H v → Q (.bl false) H)
theorem sc_is_amount : FnScope ["value"] ["value"] (defScope s_is_amount) := ⟨rfl, rfl, rfl, by decide +kernel, rfl, by decide +kernel, by decide +kernel⟩
theorem ok_is_amount (T : Tx K mg base) : Ok P w K mg base 2 (d_is_amount.loc K) ["value"] (spIsA K) := by
  refine mk_ok (k := 1) T.f_is_amount sc_is_amount (fun _ _ _ _ _ _ us hl => match us, hl with | [_], _ => rfl) (fun vs H Q E h => ?_) (fun cdv A outer s H vs Q E hr h => ?_)
  · obtain ⟨v, rfl, _⟩ := h
    rfl
  · obtain ⟨v, rfl, hv, k1, k2⟩ := h
    refine ⟨_, (pss_one (ps_ret (pe_or (pe_callB call_isi (by rfl) T.b_isinstance (by decide +kernel) (pa_cons (pv 0) (pa_cons (pe_gr T.g_Amount) pa_nil))) (pe_one (ok_call (ok_is_whole T) (hr.mono (by decide)) rfl T.g_is_whole passL (pa_cons (pv 0) pa_nil)))))), ?_⟩
    obtain ⟨t, b, ty, kit, hb⟩ := isi_amt T hv
    refine ⟨_, rfl, _, _, _, _, _, rfl, .own _, ty, kit, _, rfl, ?_⟩
    rcases hb with ⟨rfl, a, q', rfl, ha⟩ | ⟨rfl, hi⟩
    · exact iteT (k1 ⟨_, .obj ha⟩)
    · refine iteF ⟨_, rfl, v, rfl, hv, ?_⟩
      rcases hi with ⟨i, rfl⟩ | ⟨hw, hno⟩
      · exact k1 ⟨_, .int i⟩
      · rw [hw]
        exact k2 hno
end
end K02

set_option maxHeartbeats 4000000
namespace K02
open PySem PySem.Spec PyProof.Rows L2 AT
section
variable {P : Program} {w : World} {K : PySem.W.Frag} {mg : Str → Option Value} {base : Heap}
theorem mul_ok {i j : Int} (h : i.natAbs < 2 ^ 3000) (g : j.natAbs < 2 ^ 3000) : CMulW i j := wide_mul (a := 3000) (b := 3000) h g (by decide) (by decide) (by decide)
theorem bot_ok {i j : Int} (h : i.natAbs < 2 ^ 3000) (g : j.natAbs < 2 ^ 3000) : (i * j).natAbs < 2 ^ 8000 := Nat.lt_of_lt_of_le (mul_bits h g) (Nat.pow_le_pow_right (by decide) (by decide))
/-- a op b of two amounts: a new amount -/
def spBin (op : Rat → Rat → Rat) (K : PySem.W.Frag) : Sp := fun vs H Q E => ∃ a v x, vs = [.ref a, v] ∧ IsQ K H a x ∧ Bits 3000 x ∧ AnyV K H v ∧
  ((∃ y, Qv K H v y ∧ Bits 3000 y ∧ ∀ p H', Same H H' → H p = none → IsQ K H' p (op x y) → Q (.ref p) H') ∨ (wholeV v = false ∧ ¬ isA K H v ∧ Rf K "InvalidAmount" "value" v H E))
theorem none_of {H H' : Hp} {x : Addr} (s : Same H H') (h : H' x = none) : H x = none := by
  cases q : H x with
  | none => rfl
  | some o => rw [s _ _ q] at h; cases h
theorem sc_Amount_add_ : FnScope ["self", "other", "by"] ["self", "other"] (defScope s_Amount_add_) := ⟨rfl, rfl, rfl, by decide +kernel, rfl, by decide +kernel, by decide +kernel⟩
theorem ok_Amount_add_ (T : Tx K mg base) : Ok P w K mg base 6 (d_Amount_add_.loc K) ["self", "other"] (spBin (fun x y => x + y) K) := by
  refine mk_ok (k := 5) T.f_Amount_add_ sc_Amount_add_ (fun _ _ _ _ _ _ us hl => match us, hl with | [_, _], _ => rfl) (fun vs H Q E h => ?_) (fun cdv A outer s H vs Q E hr h => ?_)
  · obtain ⟨a, v, x, rfl, _⟩ := h
    rfl
  · obtain ⟨a, v, x, rfl, ha, bx, hv, hc⟩ := h
    refine ⟨_, (pss_cons (ps_set (i := 2) sc_Amount_add_.nd rfl (Or.inl rfl) (ok_call (ok_amount_from T) (hr.mono (by decide)) rfl T.g_amount_from (passE rfl rfl rfl rfl) (pa_cons (pv 1) pa_nil)))
      (pss_one (ps_ret (ok_make T.mkr_Amount (ok_Amount_init_ T) (hr.mono (by decide)) rfl T.g_Amount (passE rfl rfl rfl rfl) (pa_cons (pe_op op_add (pe_op op_mulW (pe_fld (pv 0) rfl) (pe_fld (pv 2) rfl)) (pe_op op_mulW (pe_fld (pv 2) rfl) (pe_fld (pv 0) rfl))) (pa_cons (pe_op op_mulW (pe_fld (pv 0) rfl) (pe_fld (pv 2) rfl)) pa_nil)))))), ?_⟩
    rcases hc with ⟨y, hy, by_, k⟩ | ⟨hw, hno, k⟩
    · refine ⟨_, rfl, v, rfl, hv, .inl ⟨y, hy, fun p H1 s1 hq => ?_⟩⟩
      obtain ⟨da, ha1⟩ := ha.up s1
      obtain ⟨dp, hp⟩ := hq
      refine ⟨_, rfl, a, _, da, _, _, rfl, ha1, T.cls_Amount, T.no_Amount_own_top, rfl, _, rfl, p, _, dp, _, _, rfl, hp, T.cls_Amount, T.no_Amount_own_bottom, rfl, _, _, rfl, rfl, mul_ok bx.1 (den_bits by_), ?_⟩
      refine ⟨_, rfl, p, _, dp, _, _, rfl, hp, T.cls_Amount, T.no_Amount_own_top, rfl, _, rfl, a, _, da, _, _, rfl, ha1, T.cls_Amount, T.no_Amount_own_bottom, rfl, _, _, rfl, rfl, mul_ok by_.1 (den_bits bx), ?_⟩
      refine ⟨_, _, rfl, rfl, ?_⟩
      refine ⟨_, rfl, a, _, da, _, _, rfl, ha1, T.cls_Amount, T.no_Amount_own_bottom, rfl, _, rfl, p, _, dp, _, _, rfl, hp, T.cls_Amount, T.no_Amount_own_bottom, rfl, _, _, rfl, rfl, mul_ok (den_bits bx) (den_bits by_), ?_⟩
      refine fun q dq hq hdq hne => ⟨q, dq, _, _, rfl, upd_same, .int _, .int _, .inl ⟨_, _, rfl, rfl, Int.mul_ne_zero (den_ne x) (den_ne y), bot_ok (den_bits bx) (den_bits by_), rfl, ?_⟩⟩
      refine k q _ (s1.trans (made_same hq hdq)) (none_of s1 hq) ⟨dq, ?_⟩
      rw [upd_same, q_add]
      rfl
    · exact ⟨_, rfl, v, rfl, hv, .inr ⟨hw, hno, k⟩⟩
theorem sc_Amount_sub_ : FnScope ["self", "other", "by"] ["self", "other"] (defScope s_Amount_sub_) := ⟨rfl, rfl, rfl, by decide +kernel, rfl, by decide +kernel, by decide +kernel⟩
theorem ok_Amount_sub_ (T : Tx K mg base) : Ok P w K mg base 6 (d_Amount_sub_.loc K) ["self", "other"] (spBin (fun x y => x - y) K) := by
  refine mk_ok (k := 5) T.f_Amount_sub_ sc_Amount_sub_ (fun _ _ _ _ _ _ us hl => match us, hl with | [_, _], _ => rfl) (fun vs H Q E h => ?_) (fun cdv A outer s H vs Q E hr h => ?_)
  · obtain ⟨a, v, x, rfl, _⟩ := h
    rfl
  · obtain ⟨a, v, x, rfl, ha, bx, hv, hc⟩ := h
    refine ⟨_, (pss_cons (ps_set (i := 2) sc_Amount_sub_.nd rfl (Or.inl rfl) (ok_call (ok_amount_from T) (hr.mono (by decide)) rfl T.g_amount_from (passE rfl rfl rfl rfl) (pa_cons (pv 1) pa_nil)))
      (pss_one (ps_ret (ok_make T.mkr_Amount (ok_Amount_init_ T) (hr.mono (by decide)) rfl T.g_Amount (passE rfl rfl rfl rfl) (pa_cons (pe_op op_sub (pe_op op_mulW (pe_fld (pv 0) rfl) (pe_fld (pv 2) rfl)) (pe_op op_mulW (pe_fld (pv 2) rfl) (pe_fld (pv 0) rfl))) (pa_cons (pe_op op_mulW (pe_fld (pv 0) rfl) (pe_fld (pv 2) rfl)) pa_nil)))))), ?_⟩
    rcases hc with ⟨y, hy, by_, k⟩ | ⟨hw, hno, k⟩
    · refine ⟨_, rfl, v, rfl, hv, .inl ⟨y, hy, fun p H1 s1 hq => ?_⟩⟩
      obtain ⟨da, ha1⟩ := ha.up s1
      obtain ⟨dp, hp⟩ := hq
      refine ⟨_, rfl, a, _, da, _, _, rfl, ha1, T.cls_Amount, T.no_Amount_own_top, rfl, _, rfl, p, _, dp, _, _, rfl, hp, T.cls_Amount, T.no_Amount_own_bottom, rfl, _, _, rfl, rfl, mul_ok bx.1 (den_bits by_), ?_⟩
      refine ⟨_, rfl, p, _, dp, _, _, rfl, hp, T.cls_Amount, T.no_Amount_own_top, rfl, _, rfl, a, _, da, _, _, rfl, ha1, T.cls_Amount, T.no_Amount_own_bottom, rfl, _, _, rfl, rfl, mul_ok by_.1 (den_bits bx), ?_⟩
      refine ⟨_, _, rfl, rfl, ?_⟩
      refine ⟨_, rfl, a, _, da, _, _, rfl, ha1, T.cls_Amount, T.no_Amount_own_bottom, rfl, _, rfl, p, _, dp, _, _, rfl, hp, T.cls_Amount, T.no_Amount_own_bottom, rfl, _, _, rfl, rfl, mul_ok (den_bits bx) (den_bits by_), ?_⟩
      refine fun q dq hq hdq hne => ⟨q, dq, _, _, rfl, upd_same, .int _, .int _, .inl ⟨_, _, rfl, rfl, Int.mul_ne_zero (den_ne x) (den_ne y), bot_ok (den_bits bx) (den_bits by_), rfl, ?_⟩⟩
      refine k q _ (s1.trans (made_same hq hdq)) (none_of s1 hq) ⟨dq, ?_⟩
      rw [upd_same, q_sub]
      rfl
    · exact ⟨_, rfl, v, rfl, hv, .inr ⟨hw, hno, k⟩⟩
theorem sc_Amount_mul_ : FnScope ["self", "other", "by"] ["self", "other"] (defScope s_Amount_mul_) := ⟨rfl, rfl, rfl, by decide +kernel, rfl, by decide +kernel, by decide +kernel⟩
theorem ok_Amount_mul_ (T : Tx K mg base) : Ok P w K mg base 6 (d_Amount_mul_.loc K) ["self", "other"] (spBin (fun x y => x * y) K) := by
  refine mk_ok (k := 5) T.f_Amount_mul_ sc_Amount_mul_ (fun _ _ _ _ _ _ us hl => match us, hl with | [_, _], _ => rfl) (fun vs H Q E h => ?_) (fun cdv A outer s H vs Q E hr h => ?_)
  · obtain ⟨a, v, x, rfl, _⟩ := h
    rfl
  · obtain ⟨a, v, x, rfl, ha, bx, hv, hc⟩ := h
    refine ⟨_, (pss_cons (ps_set (i := 2) sc_Amount_mul_.nd rfl (Or.inl rfl) (ok_call (ok_amount_from T) (hr.mono (by decide)) rfl T.g_amount_from (passE rfl rfl rfl rfl) (pa_cons (pv 1) pa_nil)))
      (pss_one (ps_ret (ok_make T.mkr_Amount (ok_Amount_init_ T) (hr.mono (by decide)) rfl T.g_Amount (passE rfl rfl rfl rfl) (pa_cons (pe_op op_mulW (pe_fld (pv 0) rfl) (pe_fld (pv 2) rfl)) (pa_cons (pe_op op_mulW (pe_fld (pv 0) rfl) (pe_fld (pv 2) rfl)) pa_nil)))))), ?_⟩
    rcases hc with ⟨y, hy, by_, k⟩ | ⟨hw, hno, k⟩
    · refine ⟨_, rfl, v, rfl, hv, .inl ⟨y, hy, fun p H1 s1 hq => ?_⟩⟩
      obtain ⟨da, ha1⟩ := ha.up s1
      obtain ⟨dp, hp⟩ := hq
      refine ⟨_, rfl, a, _, da, _, _, rfl, ha1, T.cls_Amount, T.no_Amount_own_top, rfl, _, rfl, p, _, dp, _, _, rfl, hp, T.cls_Amount, T.no_Amount_own_top, rfl, _, _, rfl, rfl, mul_ok bx.1 by_.1, ?_⟩
      refine ⟨_, rfl, a, _, da, _, _, rfl, ha1, T.cls_Amount, T.no_Amount_own_bottom, rfl, _, rfl, p, _, dp, _, _, rfl, hp, T.cls_Amount, T.no_Amount_own_bottom, rfl, _, _, rfl, rfl, mul_ok (den_bits bx) (den_bits by_), ?_⟩
      refine fun q dq hq hdq hne => ⟨q, dq, _, _, rfl, upd_same, .int _, .int _, .inl ⟨_, _, rfl, rfl, Int.mul_ne_zero (den_ne x) (den_ne y), bot_ok (den_bits bx) (den_bits by_), rfl, ?_⟩⟩
      refine k q _ (s1.trans (made_same hq hdq)) (none_of s1 hq) ⟨dq, ?_⟩
      rw [upd_same, q_mul]
      rfl
    · exact ⟨_, rfl, v, rfl, hv, .inr ⟨hw, hno, k⟩⟩
def spDiv (K : PySem.W.Frag) : Sp := fun vs H Q E => ∃ a v x, vs = [.ref a, v] ∧ IsQ K H a x ∧ Bits 3000 x ∧ AnyV K H v ∧
  ((∃ y, Qv K H v y ∧ Bits 3000 y ∧ y ≠ 0 ∧ ∀ p H', Same H H' → H p = none → IsQ K H' p (x / y) → Q (.ref p) H') ∨ (Qv K H v 0 ∧ Rf K "InvalidAmount" "value" v H E) ∨ (wholeV v = false ∧ ¬ isA K H v ∧ Rf K "InvalidAmount" "value" v H E))
theorem sc_Amount_divided : FnScope ["self", "other", "by"] ["self", "other"] (defScope s_Amount_divided) := ⟨rfl, rfl, rfl, by decide +kernel, rfl, by decide +kernel, by decide +kernel⟩
theorem ok_Amount_divided (T : Tx K mg base) : Ok P w K mg base 6 (d_Amount_divided.loc K) ["self", "other"] (spDiv K) := by
  refine mk_ok (k := 5) T.f_Amount_divided sc_Amount_divided (fun _ _ _ _ _ _ us hl => match us, hl with | [_, _], _ => rfl) (fun vs H Q E h => ?_) (fun cdv A outer s H vs Q E hr h => ?_)
  · obtain ⟨a, v, x, rfl, _⟩ := h
    rfl
  · obtain ⟨a, v, x, rfl, ha, bx, hv, hc⟩ := h
    refine ⟨_, (pss_cons (ps_set (i := 2) sc_Amount_divided.nd rfl (Or.inl rfl) (ok_call (ok_amount_from T) (hr.mono (by decide)) rfl T.g_amount_from (passE rfl rfl rfl rfl) (pa_cons (pv 1) pa_nil)))
      (pss_cons (ps_if (pt_cmpR op_eq (pe_fld (pv 2) rfl) pe_int (nomark _)) (pss_one (ps_rs rfl (mx_InvalidAmount T (hr.mono (by decide))) (takes_of rfl rfl rfl rfl) rfl (pv 1))) pss_nil)
      (pss_one (ps_ret (ok_make T.mkr_Amount (ok_Amount_init_ T) (hr.mono (by decide)) rfl T.g_Amount (passE rfl rfl rfl rfl) (pa_cons (pe_op op_mulW (pe_fld (pv 0) rfl) (pe_fld (pv 2) rfl)) (pa_cons (pe_op op_mulW (pe_fld (pv 0) rfl) (pe_fld (pv 2) rfl)) pa_nil))))))), ?_⟩
    rcases hc with ⟨y, hy, by_, y0, k⟩ | ⟨hy, k⟩ | ⟨hw, hno, k⟩
    · refine ⟨_, rfl, v, rfl, hv, .inl ⟨y, hy, fun p H1 s1 hq => ?_⟩⟩
      obtain ⟨da, ha1⟩ := ha.up s1
      obtain ⟨dp, hp⟩ := hq
      refine ⟨_, rfl, p, _, dp, _, _, rfl, hp, T.cls_Amount, T.no_Amount_own_top, rfl, rfl, _, rfl, ?_⟩
      rw [decide_eq_false (fun z => num_ne y0 (V.int.inj z))]
      refine iteF ⟨_, rfl, a, _, da, _, _, rfl, ha1, T.cls_Amount, T.no_Amount_own_top, rfl, _, rfl, p, _, dp, _, _, rfl, hp, T.cls_Amount, T.no_Amount_own_bottom, rfl, _, _, rfl, rfl, mul_ok bx.1 (den_bits by_), ?_⟩
      refine ⟨_, rfl, a, _, da, _, _, rfl, ha1, T.cls_Amount, T.no_Amount_own_bottom, rfl, _, rfl, p, _, dp, _, _, rfl, hp, T.cls_Amount, T.no_Amount_own_top, rfl, _, _, rfl, rfl, mul_ok (den_bits bx) by_.1, ?_⟩
      refine fun q dq hq hdq hne => ⟨q, dq, _, _, rfl, upd_same, .int _, .int _, .inl ⟨_, _, rfl, rfl, Int.mul_ne_zero (den_ne x) (num_ne y0), bot_ok (den_bits bx) by_.1, rfl, ?_⟩⟩
      refine k q _ (s1.trans (made_same hq hdq)) (none_of s1 hq) ⟨dq, ?_⟩
      rw [upd_same, q_div]
      rfl
    · refine ⟨_, rfl, v, rfl, hv, .inl ⟨0, hy, fun p H1 s1 hq => ?_⟩⟩
      obtain ⟨dp, hp⟩ := hq
      refine ⟨_, rfl, p, _, dp, _, _, rfl, hp, T.cls_Amount, T.no_Amount_own_top, rfl, rfl, _, rfl, ?_⟩
      rw [decide_eq_true (show V.int (Rat.num 0) = V.int 0 from rfl)]
      exact iteT ⟨_, rfl, mk_at T.xc_InvalidAmount.oex T.xc_InvalidAmount.no (rf_of (k.up s1))⟩
    · exact ⟨_, rfl, v, rfl, hv, .inr ⟨hw, hno, k⟩⟩
def spNeg (K : PySem.W.Frag) : Sp := fun vs H Q _ => ∃ a x, vs = [.ref a] ∧ IsQ K H a x ∧ Bits 3000 x ∧ ∀ p H', Same H H' → H p = none → IsQ K H' p (-x) → Q (.ref p) H'
theorem sc_Amount_neg_ : FnScope ["self"] ["self"] (defScope s_Amount_neg_) := ⟨rfl, rfl, rfl, by decide +kernel, rfl, by decide +kernel, by decide +kernel⟩
theorem ok_Amount_neg_ (T : Tx K mg base) : Ok P w K mg base 6 (d_Amount_neg_.loc K) ["self"] (spNeg K) := by
  refine mk_ok (k := 5) T.f_Amount_neg_ sc_Amount_neg_ (fun _ _ _ _ _ _ us hl => match us, hl with | [_], _ => rfl) (fun vs H Q E h => ?_) (fun cdv A outer s H vs Q E hr h => ?_)
  · obtain ⟨a, x, rfl, _⟩ := h
    rfl
  · obtain ⟨a, x, rfl, ha, bx, k⟩ := h
    refine ⟨_, (pss_one (ps_ret (ok_make T.mkr_Amount (ok_Amount_init_ T) (hr.mono (by decide)) rfl T.g_Amount (passE rfl rfl rfl rfl) (pa_cons (pe_un un_neg (pe_fld (pv 0) rfl)) (pa_cons (pe_fld (pv 0) rfl) pa_nil))))), ?_⟩
    obtain ⟨da, ha1⟩ := id ha
    refine ⟨_, rfl, a, _, da, _, _, rfl, ha1, T.cls_Amount, T.no_Amount_own_top, rfl, _, rfl, ?_⟩
    refine ⟨_, rfl, a, _, da, _, _, rfl, ha1, T.cls_Amount, T.no_Amount_own_bottom, rfl, ?_⟩
    refine fun q dq hq hdq hne => ⟨q, dq, _, _, rfl, upd_same, .int _, .int _, .inl ⟨_, _, rfl, rfl, den_ne x, Nat.lt_of_lt_of_le (den_bits bx) (Nat.pow_le_pow_right (by decide) (by decide)), rfl, ?_⟩⟩
    refine k q _ (made_same hq hdq) hq ⟨dq, ?_⟩
    rw [upd_same, q_neg]
    rfl
/-- -1, 0, 1 -/
def cmpQ (x y : Rat) : Int := (if y < x then 1 else 0) - (if x < y then 1 else 0)
def spCmp (K : PySem.W.Frag) : Sp := fun vs H Q E => ∃ a v x, vs = [.ref a, v] ∧ IsQ K H a x ∧ Bits 3000 x ∧ AnyV K H v ∧
  ((∃ y, Qv K H v y ∧ Bits 3000 y ∧ ∀ H', Same H H' → Q (.int (cmpQ x y)) H') ∨ (wholeV v = false ∧ ¬ isA K H v ∧ Rf K "InvalidAmount" "value" v H E))
theorem sc_Amount_compare : FnScope ["self", "other", "by", "left", "right"] ["self", "other"] (defScope s_Amount_compare) := ⟨rfl, rfl, rfl, by decide +kernel, rfl, by decide +kernel, by decide +kernel⟩
theorem ok_Amount_compare (T : Tx K mg base) : Ok P w K mg base 6 (d_Amount_compare.loc K) ["self", "other"] (spCmp K) := by
  refine mk_ok (k := 5) T.f_Amount_compare sc_Amount_compare (fun _ _ _ _ _ _ us hl => match us, hl with | [_, _], _ => rfl) (fun vs H Q E h => ?_) (fun cdv A outer s H vs Q E hr h => ?_)
  · obtain ⟨a, v, x, rfl, _⟩ := h
    rfl
  · obtain ⟨a, v, x, rfl, ha, bx, hv, hc⟩ := h
    refine ⟨_, (pss_cons (ps_set (i := 2) sc_Amount_compare.nd rfl (Or.inl rfl) (ok_call (ok_amount_from T) (hr.mono (by decide)) rfl T.g_amount_from (passE rfl rfl rfl rfl) (pa_cons (pv 1) pa_nil)))
      (pss_cons (ps_par (by rfl) sc_Amount_compare.nd (i := 3) (j := 4) rfl rfl (by decide) rfl rfl (pa_cons (pe_op op_mulW (pe_fld (pv 0) rfl) (pe_fld (pv 2) rfl)) (pa_cons (pe_op op_mulW (pe_fld (pv 2) rfl) (pe_fld (pv 0) rfl)) pa_nil)) (by rfl))
      (pss_one (ps_ret (pe_op op_sub (pe_callTy call_int1 (by rfl) T.b_int (by decide +kernel) (pa_cons (pe_cmpR op_gt (pv 3) (pv 4) (nomark _)) pa_nil)) (pe_callTy call_int1 (by rfl) T.b_int (by decide +kernel) (pa_cons (pe_cmpR op_lt (pv 3) (pv 4) (nomark _)) pa_nil))))))), ?_⟩
    rcases hc with ⟨y, hy, by_, k⟩ | ⟨hw, hno, k⟩
    · refine ⟨_, rfl, v, rfl, hv, .inl ⟨y, hy, fun p H1 s1 hq => ?_⟩⟩
      obtain ⟨da, ha1⟩ := ha.up s1
      obtain ⟨dp, hp⟩ := hq
      refine ⟨_, rfl, a, _, da, _, _, rfl, ha1, T.cls_Amount, T.no_Amount_own_top, rfl, _, rfl, p, _, dp, _, _, rfl, hp, T.cls_Amount, T.no_Amount_own_bottom, rfl, _, _, rfl, rfl, mul_ok bx.1 (den_bits by_), ?_⟩
      refine ⟨_, rfl, p, _, dp, _, _, rfl, hp, T.cls_Amount, T.no_Amount_own_top, rfl, _, rfl, a, _, da, _, _, rfl, ha1, T.cls_Amount, T.no_Amount_own_bottom, rfl, _, _, rfl, rfl, mul_ok by_.1 (den_bits bx), _, _, rfl, ?_⟩
      have k2 := k H1 s1
      have e : cmpQ x y = (if decide (y.num * x.den < x.num * y.den) = true then 1 else 0) - (if decide (x.num * y.den < y.num * x.den) = true then 1 else 0) := by
        unfold cmpQ
        simp only [decide_eq_true_eq, Rat.lt_iff]
      rw [e] at k2
      exact ⟨_, rfl, _, rfl, _, _, rfl, rfl, .inr ⟨_, rfl, _, rfl, _, rfl, _, _, rfl, rfl, .inr ⟨_, rfl, _, _, rfl, rfl, k2⟩⟩⟩
    · exact ⟨_, rfl, v, rfl, hv, .inr ⟨hw, hno, k⟩⟩
def spEqA (K : PySem.W.Frag) : Sp := fun vs H Q _ => ∃ a b x y, vs = [.ref a, .ref b] ∧ IsQ K H a x ∧ IsQ K H b y ∧ Q (.bl (decide (x = y))) H
theorem sc_Amount_eq_ : FnScope ["self", "other"] ["self", "other"] (defScope s_Amount_eq_) := ⟨rfl, rfl, rfl, by decide +kernel, rfl, by decide +kernel, by decide +kernel⟩
theorem ok_Amount_eq_ (T : Tx K mg base) : Ok P w K mg base 2 (d_Amount_eq_.loc K) ["self", "other"] (spEqA K) := by
  refine mk_ok (k := 1) T.f_Amount_eq_ sc_Amount_eq_ (fun _ _ _ _ _ _ us hl => match us, hl with | [_, _], _ => rfl) (fun vs H Q E h => ?_) (fun cdv A outer s H vs Q E hr h => ?_)
  · obtain ⟨a, b, x, y, rfl, _⟩ := h
    rfl
  · obtain ⟨a, b, x, y, rfl, ha, hb, k⟩ := h
    refine ⟨_, (pss_cons (ps_if (pt_not (pt_val (pe_callB call_isi (by rfl) T.b_isinstance (by decide +kernel) (pa_cons (pv 1) (pa_cons (pe_gr T.g_Amount) pa_nil))))) (pss_one (ps_ret pe_never)) pss_nil)
      (pss_one (ps_ret (pe_and (pe_cmpR op_eq (pe_fld (pv 0) rfl) (pe_fld (pv 1) rfl) (nomark _)) (pe_one (pe_cmpR op_eq (pe_fld (pv 0) rfl) (pe_fld (pv 1) rfl) (nomark _))))))), ?_⟩
    obtain ⟨da, ha1⟩ := id ha
    obtain ⟨dp, hp⟩ := id hb
    refine ⟨_, rfl, _, _, _, _, _, rfl, .own _, T.ins_Amount hp, T.k_Amount_Amount, _, rfl, iteF ?_⟩
    refine ⟨_, rfl, a, _, da, _, _, rfl, ha1, T.cls_Amount, T.no_Amount_own_top, rfl, _, rfl, b, _, dp, _, _, rfl, hp, T.cls_Amount, T.no_Amount_own_top, rfl, rfl, _, rfl, ?_⟩
    by_cases e : x.num = y.num
    · rw [decide_eq_true (congrArg V.int e)]
      refine iteT ⟨_, rfl, a, _, da, _, _, rfl, ha1, T.cls_Amount, T.no_Amount_own_bottom, rfl, _, rfl, b, _, dp, _, _, rfl, hp, T.cls_Amount, T.no_Amount_own_bottom, rfl, rfl, ?_⟩
      by_cases e2 : x.den = y.den
      · rw [decide_eq_true (show V.int (x.den : Int) = V.int (y.den : Int) by rw [e2])]
        rw [decide_eq_true (Rat.ext e e2)] at k
        exact k
      · rw [decide_eq_false (show ¬ V.int (x.den : Int) = V.int (y.den : Int) from fun z => e2 (by have := V.int.inj z; omega))]
        rw [decide_eq_false (fun z => e2 (by rw [z]))] at k
        exact k
    · rw [decide_eq_false (fun z => e (V.int.inj z))]
      rw [decide_eq_false (fun z => e (by rw [z]))] at k
      exact iteF k
end
end K02

set_option maxHeartbeats 4000000
namespace K02
open PySem PySem.Spec PyProof.Rows L2 AT
/-! ### sums, the least, the greatest -/
def sumQ (qs : List Rat) : Rat := qs.foldl (fun f q => f + q) 0
def extQ (sg : Int) : List Rat → Rat
  | [] => 0
  | q :: qs => qs.foldl (fun f i => if cmpQ i f = sg then i else f) q
theorem foldl_snoc {α β : Type} (f : β → α → β) (b : β) (l : List α) (x : α) : (l ++ [x]).foldl f b = f (l.foldl f b) x := by rw [List.foldl_append]; rfl
theorem sum_bits : ∀ {qs : List Rat} {k : Nat} {a : Rat}, Bits k a → (∀ q ∈ qs, Bits 128 q) → Bits (k + 129 * qs.length) (qs.foldl (fun f q => f + q) a)
  | [], k, a, h, _ => h
  | q :: qs, k, a, h, hq => by
    have h2 := sum_bits (qs := qs) (h.add (hq q (by simp))) fun x hx => hq x (List.mem_cons_of_mem _ hx)
    refine h2.mono ?_
    simp only [List.length_cons]
    omega
theorem bits_zero : Bits 1 0 := ⟨by decide, by decide⟩
theorem sumQ_bits {qs : List Rat} (hq : ∀ q ∈ qs, Bits 128 q) (hl : qs.length ≤ 20) : Bits 3000 (sumQ qs) := (sum_bits bits_zero hq).mono (by omega)
theorem ext_mem {sg : Int} : ∀ {qs : List Rat} {a : Rat}, qs.foldl (fun f i => if cmpQ i f = sg then i else f) a ∈ a :: qs
  | [], a => by simp
  | q :: qs, a => by
    have h := ext_mem (sg := sg) (qs := qs) (a := if cmpQ q a = sg then q else a)
    rw [List.foldl_cons]
    rcases List.mem_cons.mp h with z | z
    · rw [z]
      split <;> simp
    · simp [z]
/-- at v stands an amount of the value q -/
def RQ (K : PySem.W.Frag) (H : Hp) (v : V) (q : Rat) : Prop := ∃ r, v = .ref r ∧ IsQ K H r q
theorem RQ.up {K : PySem.W.Frag} {H H' : Hp} {v : V} {q : Rat} (h : RQ K H v q) (s : Same H H') : RQ K H' v q := by
  obtain ⟨r, e, h⟩ := h
  exact ⟨r, e, h.up s⟩
theorem RQ.app {K : PySem.W.Frag} {H : Hp} {v : V} {q : Rat} {L : Addr} {acc acc' : List V} (h : RQ K H v q) (hL : H L = some (.lst acc)) : RQ K (upd H L (.lst acc')) v q := by
  obtain ⟨r, e, d, h⟩ := h
  refine ⟨r, e, d, ?_⟩
  rw [upd_ne (fun z => by rw [z, hL] at h; cases h)]
  exact h
theorem prd_rq {K : PySem.W.Frag} {H H' : Hp} {vs : List V} {qs : List Rat} (h : Paired (RQ K H) vs qs) (s : Same H H') : Paired (RQ K H') vs qs := Paired.mapP h fun _ _ z => z.up s
theorem prd_get {α β : Type} {F : α → β → Prop} : ∀ {xs : List α} {ys : List β}, Paired F xs ys → ∀ {i : Nat} {x : α}, xs[i]? = some x → ∃ y, ys[i]? = some y ∧ F x y
  | _, _, .nil, i, x, h => by simp at h
  | _, _, .cons a r, 0, x, h => by
    simp at h
    subst h
    exact ⟨_, rfl, a⟩
  | _, _, .cons a r, i + 1, x, h => by
    simp at h
    obtain ⟨y, h1, h2⟩ := prd_get r h
    exact ⟨y, by simpa using h1, h2⟩
section
variable {P : Program} {w : World} {K : PySem.W.Frag} {mg : Str → Option Value} {base : Heap}
theorem sc_Amount_abs_ : FnScope ["self"] ["self"] (defScope s_Amount_abs_) := ⟨rfl, rfl, rfl, by decide +kernel, rfl, by decide +kernel, by decide +kernel⟩
theorem ok_Amount_abs_ (T : Tx K mg base) : Ok P w K mg base 6 (d_Amount_abs_.loc K) ["self"] (fun vs H Q _ => ∃ a x, vs = [.ref a] ∧ IsQ K H a x ∧ Bits 3000 x ∧ ∀ p H', Same H H' → H p = none → IsQ K H' p (if x < 0 then -x else x) → Q (.ref p) H') := by
  refine mk_ok (k := 5) T.f_Amount_abs_ sc_Amount_abs_ (fun _ _ _ _ _ _ us hl => match us, hl with | [_], _ => rfl) (fun vs H Q E h => ?_) (fun cdv A outer s H vs Q E hr h => ?_)
  · obtain ⟨a, x, rfl, _⟩ := h
    rfl
  · obtain ⟨a, x, rfl, ha, bx, k⟩ := h
    refine ⟨_, (pss_one (ps_ret (ok_make T.mkr_Amount (ok_Amount_init_ T) (hr.mono (by decide)) rfl T.g_Amount (passE rfl rfl rfl rfl) (pa_cons (pe_callB call_abs (by rfl) T.b_abs (by decide +kernel) (pa_cons (pe_fld (pv 0) rfl) pa_nil)) (pa_cons (pe_fld (pv 0) rfl) pa_nil))))), ?_⟩
    obtain ⟨da, ha1⟩ := id ha
    refine ⟨_, rfl, a, _, da, _, _, rfl, ha1, T.cls_Amount, T.no_Amount_own_top, rfl, _, rfl, ?_⟩
    refine ⟨_, rfl, a, _, da, _, _, rfl, ha1, T.cls_Amount, T.no_Amount_own_bottom, rfl, ?_⟩
    refine fun q dq hq hdq hne => ⟨q, dq, _, _, rfl, upd_same, .int _, .int _, .inl ⟨_, _, rfl, rfl, den_ne x, Nat.lt_of_lt_of_le (den_bits bx) (Nat.pow_le_pow_right (by decide) (by decide)), rfl, ?_⟩⟩
    refine k q _ (made_same hq hdq) hq ⟨dq, ?_⟩
    rw [upd_same]
    have e : Rat.divInt (if x.num < 0 then -x.num else x.num) x.den = if x < 0 then -x else x := by
      have hn : x.num < 0 ↔ x < 0 := by
        have h2 := @Rat.num_nonneg x
        rw [← Rat.not_le, ← h2]
        omega
      by_cases c : x.num < 0
      · rw [if_pos c, if_pos (hn.mp c), q_neg]
      · rw [if_neg c, if_neg (fun z => c (hn.mpr z)), q_self]
    exact congrArg (fun z => some (HO.ins (cA K) dq (amtQ z))) e
/-- == answers NotImplemented -/
def spNoEq (K : PySem.W.Frag) : SpN := fun vs H Q => ∃ a x v, vs = [.ref a, v] ∧ IsQ K H a x ∧ AnyV K H v ∧ (∀ b, v = .ref b → ∀ q, ¬ IsQ K H b q) ∧ Q H
theorem okN_Amount_eq_ (T : Tx K mg base) : OkN P w K mg base 2 (d_Amount_eq_.loc K) ["self", "other"] (spNoEq K) := by
  refine mk_okN (k := 1) T.f_Amount_eq_ sc_Amount_eq_ (fun _ _ _ _ _ _ us hl => match us, hl with | [_, _], _ => rfl) (fun vs H Q h => ?_) (fun cdv A outer s H vs Q hr h => ?_)
  · obtain ⟨a, x, v, rfl, _⟩ := h
    rfl
  · obtain ⟨a, x, v, rfl, ha, hv, hno, q⟩ := h
    refine ⟨_, pn_if (pt_not (pt_val (pe_callB call_isi (by rfl) T.b_isinstance (by decide +kernel) (pa_cons (pv 1) (pa_cons (pe_gr T.g_Amount) pa_nil))))) (by rfl) T.b_NotImplemented (by decide +kernel), ?_⟩
    obtain ⟨t, b, ty, kit, hb⟩ := isi_amt T hv
    refine ⟨_, rfl, _, _, _, _, _, rfl, .own _, ty, kit, ?_⟩
    rcases hb with ⟨rfl, a', q', rfl, ha'⟩ | ⟨rfl, _⟩
    · exact absurd ha' (hno a' rfl q')
    · exact ⟨_, rfl, rfl, q⟩
theorem kits_amt (T : Tx K mg base) : ∀ Ty ∈ ["list", "tuple", "dict"], PySem.W.kitOne K (.ref (cA K)) (.type Ty) = some false := by
  intro Ty h
  simp only [List.mem_cons, List.not_mem_nil, or_false] at h
  rcases h with rfl | rfl | rfl
  · exact T.k_Amount_list
  · exact T.k_Amount_tuple
  · exact T.k_Amount_dict
/-- what [amount_from(amount) for amount in amounts] does -/
def FromG (K : PySem.W.Frag) (vs : List V) (H : Hp) (E : XK) (G : List Rat → Prop) : Prop :=
  (∃ qs, Paired (Qv K H) vs qs ∧ G qs) ∨ (∃ (i : Nat) (x : V), vs[i]? = some x ∧ (∀ j y, j < i → vs[j]? = some y → isA K H y) ∧ wholeV x = false ∧ ¬ isA K H x ∧ Rf K "InvalidAmount" "value" x H E)
theorem froms {vs : List V} {b : Option V} {tl : L2.St} {p : Addr} {H : Hp} {E : XK} {Q : VK} {G : List Rat → Prop} (hp : H p = some (.tup vs)) (hz : vs.length ≤ 64) (hv : ∀ x ∈ vs, AnyV K H x) (hc : FromG K vs H E G)
    (k : ∀ qs L xs H', G qs → qs.length = vs.length → Same H H' → H' L = some (.lst xs) → Paired (RQ K H') xs qs → Q (.ref L) H') :
    tLc (iTup K (tVar 0)) (gName 2) tYes (tCall (spFrom K) [] E (tCons (tVar 2) tNil)) [2] (some (.ref p) :: b :: none :: tl) H Q := by
  refine ⟨_, rfl, p, rfl, ⟨_, SqT.of hp⟩, fun L gL => ?_⟩
  have hsl : sizeLine = 16777216 := sizeLine_eq
  rcases hc with ⟨qs, hq, hG⟩ | ⟨i0, x0, hx0, hbef, hw, hno, hR⟩
  · refine lc_tup (K := K) (a := p) (xs := vs) (fun i H' => Same H H' ∧ ∃ acc, H' L = some (.lst acc) ∧ Paired (RQ K H') acc (qs.take i)) ⟨AT.Same.up gL, [], upd_same, .nil⟩ (fun i H' _ hP => SqT.of (hP.1 _ _ hp)) (fun i x H' hxi hP => ?_) (fun H' hP => ?_)
    · obtain ⟨sm, acc, hacc, hp2⟩ := hP
      obtain ⟨q, hqi, hxq⟩ := prd_get hq hxi
      have hi := hq.length
      have hlt : i < vs.length := by
        obtain ⟨z, _⟩ := List.getElem?_eq_some_iff.mp hxi
        exact z
      have hlu := hp2.length
      rw [List.length_take] at hlu
      refine ⟨rfl, ?_⟩
      dsimp only [tYes]
      refine iteT ⟨x, rfl, x, rfl, (hxq.up sm).any, .inl ⟨q, hxq.up sm, fun r H3 s3 hr => ?_⟩⟩
      have hacc3 := s3 _ _ hacc
      refine ⟨acc, hacc3, by omega, AT.Same.new (sm.trans s3) gL, acc ++ [.ref r], upd_same, ?_⟩
      rw [List.take_add_one, hqi]
      exact Paired.snoc (Paired.mapP hp2 fun _ _ z => (z.up s3).app hacc3) (RQ.app ⟨r, rfl, hr⟩ hacc3)
    · obtain ⟨sm, acc, hacc, hp2⟩ := hP
      rw [hq.length, List.take_length] at hp2
      exact k qs L acc H' hG hq.length.symm sm hacc hp2
  · have hlt : i0 < vs.length := by
      obtain ⟨z, _⟩ := List.getElem?_eq_some_iff.mp hx0
      exact z
    refine lc_tup (K := K) (a := p) (xs := vs) (fun i H' => Same H H' ∧ i ≤ i0 ∧ ∃ acc, H' L = some (.lst acc) ∧ acc.length ≤ i) ⟨AT.Same.up gL, Nat.zero_le _, [], upd_same, Nat.le_refl _⟩ (fun i H' _ hP => SqT.of (hP.1 _ _ hp)) (fun i x H' hxi hP => ?_) (fun H' hP => ?_)
    · obtain ⟨sm, hle, acc, hacc, hl⟩ := hP
      refine ⟨rfl, ?_⟩
      dsimp only [tYes]
      have hany : AnyV K H' x := (hv x (List.mem_of_getElem? hxi)).up sm
      by_cases e : i = i0
      · subst e
        rw [hx0] at hxi
        cases hxi
        refine iteT ⟨x0, rfl, x0, rfl, hany, .inr ⟨hw, fun ⟨q, hq⟩ => hno ?_, hR.up sm⟩⟩
        cases hq with
        | int i => exact ⟨_, .int i⟩
        | obj hq =>
          -- an amount stood there before
          have h0 := hv _ (List.mem_of_getElem? hx0)
          cases h0 with
          | amt h => exact ⟨_, .obj h⟩
          | lst e => obtain ⟨_, hq⟩ := hq; rw [sm _ _ e] at hq; cases hq
          | tup e => obtain ⟨_, hq⟩ := hq; rw [sm _ _ e] at hq; cases hq
          | dct e => obtain ⟨_, hq⟩ := hq; rw [sm _ _ e] at hq; cases hq
          | oth o e =>
            obtain ⟨_, hq⟩ := hq
            rw [sm _ _ e] at hq
            cases hq
            exact absurd rfl o.ne
      · obtain ⟨q, hxq⟩ := hbef i x (by omega) hxi
        refine iteT ⟨x, rfl, x, rfl, hany, .inl ⟨q, hxq.up sm, fun r H3 s3 hr => ?_⟩⟩
        exact ⟨acc, s3 _ _ hacc, by omega, AT.Same.new (sm.trans s3) gL, by omega, acc ++ [.ref r], upd_same, by simp; omega⟩
    · obtain ⟨_, hle, _⟩ := hP
      omega
end
end K02

set_option maxHeartbeats 4000000
namespace K02
open PySem PySem.Spec PyProof.Rows L2 AT
section
variable {P : Program} {w : World} {K : PySem.W.Frag} {mg : Str → Option Value} {base : Heap}
theorem ne_of_upd {H : Hp} {p : Addr} {o : HO} (h : H p = none) : Same H (upd H p o) := AT.Same.up h
/-- the sum of what is passed -/
def spTot (K : PySem.W.Frag) : V → Hp → VK → XK → Prop := fun v H Q E => ∃ p vs, v = .ref p ∧ H p = some (.tup vs) ∧ vs.length ≤ 20 ∧ (∀ x ∈ vs, AnyV K H x) ∧
  FromG K vs H E (fun qs => (∀ q ∈ qs, Bits 128 q) ∧ ∀ r H', Same H H' → IsQ K H' r (sumQ qs) → Q (.ref r) H')
theorem fromG_up {vs : List V} {H H1 : Hp} {E : XK} {G : List Rat → Prop} (s : Same H H1) (hv : ∀ x ∈ vs, AnyV K H x) (h : FromG K vs H E G) : FromG K vs H1 E G := by
  rcases h with ⟨qs, hq, hG⟩ | ⟨i, x, hx, hb, hw, hno, hR⟩
  · exact .inl ⟨qs, Paired.mapP hq fun _ _ z => z.up s, hG⟩
  · refine .inr ⟨i, x, hx, fun j y hj hy => ?_, hw, fun ⟨q, hq⟩ => hno ?_, hR.up s⟩
    · obtain ⟨q, hq⟩ := hb j y hj hy
      exact ⟨q, hq.up s⟩
    · cases hq with
      | int i => exact ⟨_, .int i⟩
      | obj hq =>
        have h0 := hv _ (List.mem_of_getElem? hx)
        cases h0 with
        | amt h => exact ⟨_, .obj h⟩
        | lst e => obtain ⟨_, hq⟩ := hq; rw [s _ _ e] at hq; cases hq
        | tup e => obtain ⟨_, hq⟩ := hq; rw [s _ _ e] at hq; cases hq
        | dct e => obtain ⟨_, hq⟩ := hq; rw [s _ _ e] at hq; cases hq
        | oth o e =>
          obtain ⟨_, hq⟩ := hq
          rw [s _ _ e] at hq
          cases hq
          exact absurd rfl o.ne
theorem sc_total : FnScope ["amounts", "found", "amount", "item"] ["amounts"] (defScope s_total) := ⟨rfl, rfl, rfl, by decide +kernel, rfl, by decide +kernel, by decide +kernel⟩
theorem oks_total (T : Tx K mg base) : OkS P w K mg base 7 (d_total.loc K) (spAll (spTot K)) := by
  refine mk_okS (k := 6) T.f_total sc_total (fun _ _ _ _ _ _ rest => by cases rest <;> rfl) (fun cdv A outer s H vs Q E hr h => ?_)
  obtain ⟨v, rfl, p, vs, rfl, hp, hl, hv, hc⟩ := h
  refine ⟨_, (pss_cons (ps_set (i := 1) sc_total.nd rfl (Or.inl rfl) (ok_makeD T.mkr_Amount (okd_Amount_init_ T) (hr.mono (by decide)) rfl T.g_Amount (passE rfl rfl rfl rfl) (pa_cons pe_int pa_nil)))
      (pss_cons (ps_for (passes_of rfl) rfl (pi_list (pe_lcR (own := [("amount", 2)]) (g := (gName 2)) (tt := tYes) rfl rfl (takes_of rfl rfl rfl rfl) (by decide +kernel) (by rfl) sc_total.nd (pi_tup (pv 0)) (blkOk_by (own := [("amount", 2)]) (N := ["amounts", "found", "amount", "item"]) (sc := defScope s_total) (by decide +kernel)) (fun _ _ _ _ _ _ => (pg_name (i := 2) sc_total.nd rfl (Or.inl rfl))) (fun _ _ _ _ _ _ => pts_nil) (fun _ _ _ _ _ _ hx => (ok_call (ok_amount_from T) (hr.mono (by decide)) rfl T.g_amount_from hx (pa_cons (pv 2) pa_nil))))) (pg_name (i := 3) sc_total.nd rfl (Or.inl rfl)) (pss_one (ps_set (i := 1) sc_total.nd rfl (Or.inl rfl) (pe_op (op_own T.op_Amount_add (ok_Amount_add_ T) (hr.mono (by decide)) (passE rfl rfl rfl rfl)) (pv 1) (pv 3)))))
      (pss_one (ps_ret (pv 1))))), ?_⟩
  refine fun f df hf hdf hne => ⟨f, df, _, _, rfl, upd_same, .int _, .int _, .inl ⟨0, 1, rfl, rfl, by decide, by decide +kernel, rfl, ?_⟩⟩
  have s1 := made_same (o1 := .ins (cA K) df []) (o2 := .ins (cA K) df (amtQ (Rat.divInt 0 1))) hf hdf
  have hf1 : IsQ K (upd (upd (upd H df (.own f)) f (.ins (cA K) df [])) f (.ins (cA K) df (amtQ (Rat.divInt 0 1)))) f 0 := ⟨df, by rw [upd_same]; rfl⟩
  show tFor (iList K (tLc (iTup K (tVar 0)) (gName 2) tYes (tCall (spFrom K) [] E (tCons (tVar 2) tNil)) [2])) _ _ _ [some (.ref p), some (.ref f), none, none] (upd (upd (upd H df (.own f)) f (.ins (cA K) df [])) f (.ins (cA K) df (amtQ (Rat.divInt 0 1))))
  generalize upd (upd (upd H df (.own f)) f (.ins (cA K) df [])) f (.ins (cA K) df (amtQ (Rat.divInt 0 1))) = H1 at s1 hf1 ⊢
  unfold tFor iList
  refine froms (K := K) (b := some (.ref f)) (tl := [none]) (E := E) (s1 _ _ hp) (by omega) (fun x hx => (hv x hx).up s1) (fromG_up s1 hv hc) (fun qs L xs H2 g hql s2 e2 r2 => ?_)
  obtain ⟨hb, k⟩ := g
  refine ⟨L, rfl, ⟨_, SqL.of e2⟩, for_list (xs := xs) (fun i σ' H' => (∃ o2 o3 r, σ' = ([some (.ref p), some (.ref r), o2, o3] : L2.St) ∧ IsQ K H' r (sumQ (qs.take i))) ∧ Same H2 H') ⟨⟨_, _, f, rfl, hf1.up s2⟩, Same.refl _⟩ (fun i σ' H' _ hP => SqL.of (hP.2 _ _ e2)) (fun i x σ' H' hxi hP => ?_) (fun σ' H' hP => ?_)⟩
  · obtain ⟨⟨o2, o3, r, rfl, hr⟩, sm⟩ := hP
    obtain ⟨q, hqi, y, rfl, hy⟩ := prd_get r2 hxi
    obtain ⟨dr, hr1⟩ := id hr
    have hy1 := hy.up sm
    obtain ⟨dy, hy2⟩ := id hy1
    have hsum : Bits 3000 (sumQ (qs.take i)) := sumQ_bits (fun q hq => hb q (List.mem_of_mem_take hq)) (by rw [List.length_take]; omega)
    refine ⟨_, rfl, _, rfl, r, dr, _, _, rfl, hr1, T.ins_Amount hy2, .inl rfl, r, .ref y, _, rfl, hr, hsum, .amt hy1, .inl ⟨q, .obj hy1, (hb q (List.mem_of_getElem? hqi)).mono (by decide), fun z H3 s3 _ hz => ?_⟩⟩
    refine ⟨⟨_, _, z, rfl, ?_⟩, sm.trans s3⟩
    rw [List.take_add_one, hqi]
    show IsQ K H3 z (sumQ (qs.take i ++ [q]))
    unfold sumQ at hz ⊢
    rw [foldl_snoc]
    exact hz
  · obtain ⟨⟨o2, o3, r, rfl, hr⟩, sm⟩ := hP
    refine ⟨_, rfl, k r H' (s1.trans (s2.trans sm)) ?_⟩
    rw [r2.length, List.take_length] at hr
    exact hr
/-- the amount that is the greatest one, or the least one -/
def spExt (K : PySem.W.Frag) : Sp := fun vs H Q E => ∃ p xs sg, vs = [.ref p, .int sg] ∧ H p = some (.tup xs) ∧ xs.length ≤ 20 ∧ (∀ x ∈ xs, AnyV K H x) ∧
  ((xs = [] ∧ Rf K "InvalidPart" "value" (.ref p) H E) ∨ (xs ≠ [] ∧ FromG K xs H E (fun qs => (∀ q ∈ qs, Bits 128 q) ∧ ∀ r H', Same H H' → IsQ K H' r (extQ sg qs) → Q (.ref r) H')))
theorem sc_extreme : FnScope ["amounts", "sign", "amount", "plain", "found", "item"] ["amounts", "sign"] (defScope s_extreme) := ⟨rfl, rfl, rfl, by decide +kernel, rfl, by decide +kernel, by decide +kernel⟩
theorem ok_extreme (T : Tx K mg base) : Ok P w K mg base 7 (d_extreme.loc K) ["amounts", "sign"] (spExt K) := by
  refine mk_ok (k := 6) T.f_extreme sc_extreme (fun _ _ _ _ _ _ us hl => match us, hl with | [_, _], _ => rfl) (fun vs H Q E h => ?_) (fun cdv A outer s H vs Q E hr h => ?_)
  · obtain ⟨p, xs, sg, rfl, _⟩ := h
    rfl
  · obtain ⟨p, vs, sg, rfl, hp, hl, hv, hc⟩ := h
    refine ⟨_, (pss_cons (ps_setLcR (i := 3) (own := [("amount", 2)]) (g := (gName 2)) (tt := tYes) rfl rfl (takes_of rfl rfl rfl rfl) (by decide +kernel) (by rfl) sc_extreme.nd rfl rfl (sw_true rfl rfl rfl (by decide +kernel)) (pi_tup (pv 0)) (blkOk_by (own := [("amount", 2)]) (N := ["amounts", "sign", "amount", "plain", "found", "item"]) (sc := defScope s_extreme) (by decide +kernel)) (fun _ _ _ _ _ _ => (pg_name (i := 2) sc_extreme.nd rfl (Or.inl rfl))) (fun _ _ _ _ _ _ => pts_nil) (fun _ _ _ _ _ _ hx => (ok_call (ok_amount_from T) (hr.mono (by decide)) rfl T.g_amount_from hx (pa_cons (pv 2) pa_nil))))
      (pss_cons (ps_if (pt_cmpR (show OpR _ _ (rEqE K) from op_eqE hr.units) (pv 3) (pe_lst pa_nil) (nomark _)) (pss_one (ps_rs rfl (mx_InvalidPart T (hr.mono (by decide))) (takes_of rfl rfl rfl rfl) rfl (pv 0))) pss_nil)
      (pss_cons (ps_set (i := 4) sc_extreme.nd rfl (Or.inl rfl) (pe_ix ix_list (pv 3) pe_int (fun _ _ => rfl)))
      (pss_cons (ps_for (passes_of rfl) rfl (pi_list (pe_slice sl_list (pv 3) (po_some pe_int) po_none)) (pg_name (i := 5) sc_extreme.nd rfl (Or.inl rfl)) (pss_one (ps_if (pt_cmpR op_eq (ok_meth T.cls_Amount T.m_Amount_compare (ok_Amount_compare T) (hr.mono (by decide)) (passE rfl rfl rfl rfl) (pv 5) (pa_cons (pv 4) pa_nil)) (pv 1) (nomark _)) (pss_one (ps_set (i := 4) sc_extreme.nd rfl (Or.inl rfl) (pv 5))) pss_nil)))
      (pss_one (ps_ret (pv 4))))))), ?_⟩
    show tAsg (tLc (iTup K (tVar 0)) (gName 2) tYes (tCall (spFrom K) [] E (tCons (tVar 2) tNil)) [2]) (gName 3) _ [some (.ref p), some (.int sg), none, none, none, none] H
    unfold tAsg
    rcases hc with ⟨rfl, hR⟩ | ⟨hne, hc⟩
    · refine froms (K := K) (b := some (.int sg)) (tl := [none, none, none]) (E := E) (G := fun qs => True) hp (by simp) hv (.inl ⟨[], .nil, trivial⟩) (fun qs L xs H2 g hql s2 e2 r2 => ?_)
      have hx0 : xs = [] := List.length_eq_zero_iff.mp (by rw [r2.length, hql]; rfl)
      subst hx0
      refine ⟨_, rfl, (by show 0 ≤ sizeLine; decide), fun t gt => ⟨[], ⟨L, t, rfl, rfl, SqL.of (AT.Same.up gt _ _ e2), SqL.of upd_same⟩, _, rfl, iteT ⟨_, rfl, mk_at T.xc_InvalidPart.oex T.xc_InvalidPart.no (rf_of (hR.up (s2.trans (AT.Same.up gt))))⟩⟩⟩
    · refine froms (K := K) (b := some (.int sg)) (tl := [none, none, none]) (E := E) hp (by omega) hv hc (fun qs L xs H2 g hql s2 e2 r2 => ?_)
      obtain ⟨hb, k⟩ := g
      cases qs with
      | nil => exact absurd (List.length_eq_zero_iff.mp hql.symm) hne
      | cons q0 qs =>
        cases r2 with
        | cons h0 r2 =>
          rename_i x0 xs
          obtain ⟨y0, rfl, hy0⟩ := h0
          refine ⟨_, rfl, (by show 0 ≤ sizeLine; decide), fun t gt => ⟨_, ⟨L, t, rfl, rfl, SqL.of (AT.Same.up gt _ _ e2), SqL.of upd_same⟩, _, rfl, iteF ?_⟩⟩
          have st := AT.Same.up (o := .lst []) gt
          generalize upd H2 t (.lst []) = H3 at st ⊢
          have e3 := st _ _ e2
          refine ⟨_, rfl, L, _, 0, _, rfl, rfl, SqL.of e3, (show atI (V.ref y0 :: xs) ((0 : Nat) : Int) = some (V.ref y0) from atI_nat rfl), ?_⟩
          refine ⟨_, rfl, _, rfl, L, _, rfl, SqL.of e3, fun u gu => ?_⟩
          have su := AT.Same.up (o := .lst (cutV (V.ref y0 :: xs) (some 1) none)) gu
          have hu : upd H3 u (.lst (cutV (V.ref y0 :: xs) (some 1) none)) u = some (.lst xs) := by
            rw [upd_same]
            have := cut_from (V.ref y0 :: xs) 1
            rw [show (some ((1 : Nat) : Int)) = some (1 : Int) from rfl] at this
            rw [this]
            rfl
          generalize upd H3 u (.lst (cutV (V.ref y0 :: xs) (some 1) none)) = H4 at su hu ⊢
          have s4 := st.trans su
          refine ⟨u, rfl, ⟨_, SqL.of hu⟩, for_list (xs := xs) (fun i σ' H' => (∃ o2 o3 o5 r, σ' = ([some (.ref p), some (.int sg), o2, o3, some (.ref r), o5] : L2.St) ∧ IsQ K H' r (extQ sg (q0 :: qs.take i))) ∧ Same H4 H') ⟨⟨_, _, _, y0, rfl, hy0.up s4⟩, Same.refl _⟩ (fun i σ' H' _ hP => SqL.of (hP.2 _ _ hu)) (fun i x σ' H' hxi hP => ?_) (fun σ' H' hP => ?_)⟩
          · obtain ⟨⟨o2, o3, o5, r, rfl, hr⟩, sm⟩ := hP
            obtain ⟨q, hqi, y, rfl, hy⟩ := prd_get r2 hxi
            have hq := List.mem_of_getElem? hqi
            have hy1 := hy.up (s4.trans sm)
            obtain ⟨dy, hy2⟩ := id hy1
            have hmem : extQ sg (q0 :: qs.take i) ∈ q0 :: qs := by
              have z := ext_mem (sg := sg) (qs := qs.take i) (a := q0)
              rcases List.mem_cons.mp z with z | z
              · exact List.mem_cons.mpr (.inl z)
              · exact List.mem_cons.mpr (.inr (List.mem_of_mem_take z))
            refine ⟨_, rfl, y, dy, _, rfl, hy2, rfl, _, rfl, y, .ref r, q, rfl, hy1, (hb q (List.mem_cons_of_mem _ hq)).mono (by decide), .amt hr, .inl ⟨_, .obj hr, (hb _ hmem).mono (by decide), fun H5 s5 => ⟨_, rfl, rfl, _, rfl, ?_⟩⟩⟩
            have step : extQ sg (q0 :: qs.take (i + 1)) = if cmpQ q (extQ sg (q0 :: qs.take i)) = sg then q else extQ sg (q0 :: qs.take i) := by
              rw [List.take_add_one, hqi]
              show (qs.take i ++ [q]).foldl (fun f i => if cmpQ i f = sg then i else f) q0 = _
              rw [foldl_snoc]
              rfl
            by_cases c : cmpQ q (extQ sg (q0 :: qs.take i)) = sg
            · rw [decide_eq_true (congrArg V.int c)]
              refine iteT ⟨_, rfl, ⟨_, _, _, y, rfl, ?_⟩, sm.trans s5⟩
              rw [step, if_pos c]
              exact hy1.up s5
            · rw [decide_eq_false (fun z => c (V.int.inj z))]
              refine iteF ⟨⟨_, _, _, r, rfl, ?_⟩, sm.trans s5⟩
              rw [step, if_neg c]
              exact hr.up s5
          · obtain ⟨⟨o2, o3, o5, r, rfl, hr⟩, sm⟩ := hP
            refine ⟨_, rfl, k r H' (s2.trans (s4.trans sm)) ?_⟩
            have hl2 := r2.length
            rw [hl2, List.take_length] at hr
            exact hr
/-- least, greatest: by the tuple -/
def spEx (sg : Int) (K : PySem.W.Frag) : V → Hp → VK → XK → Prop := fun v H Q E => ∃ p, v = .ref p ∧ spExt K [.ref p, .int sg] H Q E
theorem sc_least : FnScope ["amounts"] ["amounts"] (defScope s_least) := ⟨rfl, rfl, rfl, by decide +kernel, rfl, by decide +kernel, by decide +kernel⟩
theorem oks_least (T : Tx K mg base) : OkS P w K mg base 8 (d_least.loc K) (spAll (spEx (-1) K)) := by
  refine mk_okS (k := 7) T.f_least sc_least (fun _ _ _ _ _ _ rest => by cases rest <;> rfl) (fun cdv A outer s H vs Q E hr h => ?_)
  obtain ⟨v, rfl, p, rfl, h⟩ := h
  refine ⟨_, (pss_one (ps_ret (ok_call (ok_extreme T) (hr.mono (by decide)) rfl T.g_extreme (passE rfl rfl rfl rfl) (pa_cons (pv 0) (pa_cons (pe_un un_neg pe_int) pa_nil))))), ?_⟩
  exact ⟨_, rfl, _, rfl, h⟩
theorem sc_greatest : FnScope ["amounts"] ["amounts"] (defScope s_greatest) := ⟨rfl, rfl, rfl, by decide +kernel, rfl, by decide +kernel, by decide +kernel⟩
theorem oks_greatest (T : Tx K mg base) : OkS P w K mg base 8 (d_greatest.loc K) (spAll (spEx 1 K)) := by
  refine mk_okS (k := 7) T.f_greatest sc_greatest (fun _ _ _ _ _ _ rest => by cases rest <;> rfl) (fun cdv A outer s H vs Q E hr h => ?_)
  obtain ⟨v, rfl, p, rfl, h⟩ := h
  refine ⟨_, (pss_one (ps_ret (ok_call (ok_extreme T) (hr.mono (by decide)) rfl T.g_extreme (passE rfl rfl rfl rfl) (pa_cons (pv 0) (pa_cons pe_int pa_nil))))), ?_⟩
  exact ⟨_, rfl, h⟩
end
end K02

set_option maxHeartbeats 4000000
namespace K02
open PySem PySem.Spec PyProof.Rows L2 AT
/-! ### the law's draws -/
def BoxAt (H : Hp) (p : Addr) (n : Nat) : Prop := ∃ a b c : Int, H p = some (.lst [.int a, .int b, .int c]) ∧ 0 ≤ a ∧ 0 ≤ b ∧ b < 2147483629 ∧ 0 ≤ c ∧ c ≤ n
/-- all but the object at p is as it was -/
def SameX (p : Addr) (H H' : Hp) : Prop := ∀ b o, b ≠ p → H b = some o → H' b = some o
theorem SameX.refl (p : Addr) (H : Hp) : SameX p H H := fun _ _ _ e => e
theorem SameX.trans {p : Addr} {H H1 H2 : Hp} (a : SameX p H H1) (b : SameX p H1 H2) : SameX p H H2 := fun x o n e => b x o n (a x o n e)
theorem sameX_of {p : Addr} {H H' : Hp} (s : Same H H') : SameX p H H' := fun b o _ e => s b o e
theorem BoxAt.up {H H' : Hp} {p : Addr} {n : Nat} (h : BoxAt H p n) (s : Same H H') : BoxAt H' p n := by
  obtain ⟨a, b, c, e, r⟩ := h
  exact ⟨a, b, c, s _ _ e, r⟩
theorem BoxAt.mono {H : Hp} {p : Addr} {n m : Nat} (h : BoxAt H p n) (l : n ≤ m) : BoxAt H p m := by
  obtain ⟨a, b, c, e, h1, h2, h3, h4, h5⟩ := h
  exact ⟨a, b, c, e, h1, h2, h3, h4, by omega⟩
section
variable {P : Program} {w : World} {K : PySem.W.Frag} {mg : Str → Option Value} {base : Heap}
def spCell (K : PySem.W.Frag) : Sp := fun vs H Q _ => ∃ (a : Addr) (ns : List Int) (k : Nat), vs = [.ref a, .int k] ∧ SqL K H a (ns.map V.int) ∧ k < 100 ∧ ∀ c : Int, Q (.int c) H
theorem sc_w_cell : FnScope ["_law_script", "_law_k"] ["_law_script", "_law_k"] (defScope s_w_cell) := ⟨rfl, rfl, rfl, by decide +kernel, rfl, by decide +kernel, by decide +kernel⟩
theorem ok_w_cell (T : Tx K mg base) : Ok P w K mg base 1 (d_w_cell.loc K) ["_law_script", "_law_k"] (spCell K) := by
  refine mk_ok (k := 0) T.f_w_cell sc_w_cell (fun _ _ _ _ _ _ us hl => match us, hl with | [_, _], _ => rfl) (fun vs H Q E h => ?_) (fun cdv A outer s H vs Q E hr h => ?_)
  · obtain ⟨a, ns, k, rfl, _⟩ := h
    rfl
  · obtain ⟨a, ns, k, rfl, hS, hk, q⟩ := h
    refine ⟨_, (pss_cons (ps_if (pt_cmpR op_lt (pv 1) (pe_callB call_len_seq (by rfl) T.b_len (by decide +kernel) (pa_cons (pv 0) pa_nil)) (nomark _)) (pss_one (ps_ret (pe_ix ix_list (pv 0) (pv 1) (fun _ _ => rfl)))) pss_nil)
      (pss_one (ps_ret (pe_op op_add (pe_op op_mulW pe_int (pv 1)) pe_int)))), ?_⟩
    refine ⟨_, rfl, _, rfl, a, _, rfl, .inl hS, _, _, rfl, rfl, _, rfl, ?_⟩
    refine ite2 (fun h1 => ?_) (fun h1 => ?_)
    · have h1' : (k : Int) < ((ns.map V.int).length : Int) := of_decide_eq_true h1
      rw [List.length_map] at h1'
      have hx : (ns.map V.int)[k]? = some (.int (ns.getD k 0)) := by
        rw [List.getElem?_map, List.getElem?_eq_getElem (by omega), List.getD_eq_getElem?_getD, List.getElem?_eq_getElem (by omega)]
        rfl
      exact ⟨_, rfl, _, rfl, a, _, _, _, rfl, rfl, hS, atI_nat hx, q _⟩
    · exact ⟨_, rfl, _, _, rfl, rfl, wide_mul (a := 64) (b := 64) (by decide) (by rw [Int.natAbs_natCast]; exact Nat.lt_trans hk (by decide)) (by decide) (by decide) (by decide), _, _, rfl, rfl, q _⟩
def spBox : Sp := fun vs H Q _ => ∃ c : Int, vs = [.int c] ∧ ∀ p H', Same H H' → H p = none → BoxAt H' p 0 → Q (.ref p) H'
theorem sc_w_box : FnScope ["_law_cell_here"] ["_law_cell_here"] (defScope s_w_box) := ⟨rfl, rfl, rfl, by decide +kernel, rfl, by decide +kernel, by decide +kernel⟩
theorem ok_w_box (T : Tx K mg base) : Ok P w K mg base 1 (d_w_box.loc K) ["_law_cell_here"] spBox := by
  refine mk_ok (k := 0) T.f_w_box sc_w_box (fun _ _ _ _ _ _ us hl => match us, hl with | [_], _ => rfl) (fun vs H Q E h => ?_) (fun cdv A outer s H vs Q E hr h => ?_)
  · obtain ⟨c, rfl, _⟩ := h
    rfl
  · obtain ⟨c, rfl, k⟩ := h
    refine ⟨_, (pss_one (ps_ret (pe_lst (pa_cons (pe_callB (call_max2 rfl) (by rfl) T.b_max (by decide +kernel) (pa_cons pe_int (pa_cons (pe_op op_sub (pv 0) (pe_op op_pow pe_int pe_int)) pa_nil))) (pa_cons (pe_op op_mod (pv 0) pe_int) (pa_cons pe_int pa_nil)))))), ?_⟩
    refine ⟨_, rfl, _, _, rfl, rfl, ⟨by decide, by decide, by decide⟩, _, _, rfl, rfl, _, _, rfl, _, rfl, _, _, rfl, rfl, (show (0 : Int) < 2147483629 by decide), (by show 3 ≤ sizeLine; decide), fun p hp => ?_⟩
    exact k p _ (AT.Same.up hp) hp ⟨_, _, _, upd_same, by split <;> omega, Int.emod_nonneg _ (by decide), Int.emod_lt_of_pos _ (by decide), by decide, by decide⟩
def spTake : Sp := fun vs H Q _ => ∃ (p : Addr) (many : Int) (n : Nat), vs = [.ref p, .int many] ∧ BoxAt H p n ∧ n ≤ 100000 ∧ 0 < many ∧ many.natAbs < 2 ^ 1000 ∧ ∀ (r : Int) H', 0 ≤ r → r < many → SameX p H H' → BoxAt H' p (n + 1) → Q (.int r) H'
theorem sc_w_take : FnScope ["_law_box_here", "_law_many", "_law_digit", "_law_mixed"] ["_law_box_here", "_law_many"] (defScope s_w_take) := ⟨rfl, rfl, rfl, by decide +kernel, rfl, by decide +kernel, by decide +kernel⟩
theorem ok_w_take (T : Tx K mg base) : Ok P w K mg base 1 (d_w_take.loc K) ["_law_box_here", "_law_many"] spTake := by
  refine mk_ok (k := 0) T.f_w_take sc_w_take (fun _ _ _ _ _ _ us hl => match us, hl with | [_, _], _ => rfl) (fun vs H Q E h => ?_) (fun cdv A outer s H vs Q E hr h => ?_)
  · obtain ⟨p, many, n, rfl, _⟩ := h
    rfl
  · obtain ⟨p, many, n, rfl, ⟨a, b, c, hp, ha, hb, hb2, hc, hcn⟩, hn, hm, hmb, k⟩ := h
    refine ⟨_, (pss_cons (ps_if (pt_cmpR op_gt (pe_ix ix_list (pv 0) pe_int (fun _ _ => rfl)) pe_int (nomark _)) (pss_cons (ps_set (i := 2) sc_w_take.nd rfl (Or.inl rfl) (pe_op op_mod (pe_ix ix_list (pv 0) pe_int (fun _ _ => rfl)) (pv 1)))
      (pss_cons (ps_asg (pe_op op_fdivW (pe_ix ix_list (pv 0) pe_int (fun _ _ => rfl)) (pv 1)) (pg_sub (pv 0) pe_int set_list))
      (pss_one (ps_ret (pv 2))))) pss_nil)
      (pss_cons (ps_asg (pe_op op_add (pe_ix ix_list (pv 0) pe_int (fun _ _ => rfl)) pe_int) (pg_sub (pv 0) pe_int set_list))
      (pss_cons (ps_set (i := 3) sc_w_take.nd rfl (Or.inl rfl) (pe_op op_mod (pe_op op_pow (pe_op op_add (pe_op op_add (pe_ix ix_list (pv 0) pe_int (fun _ _ => rfl)) (pe_op op_mulW pe_int (pe_ix ix_list (pv 0) pe_int (fun _ _ => rfl)))) pe_int) pe_int) pe_int))
      (pss_cons (ps_set (i := 3) sc_w_take.nd rfl (Or.inl rfl) (pe_op op_mod (pe_op op_pow (pe_op op_add (pv 3) (pe_op op_mulW pe_int (pe_ix ix_list (pv 0) pe_int (fun _ _ => rfl)))) pe_int) pe_int))
      (pss_one (ps_ret (pe_op op_mod (pe_op op_fdivW (pv 3) pe_int) (pv 1)))))))), ?_⟩
    have sx : ∀ o, SameX p H (upd H p o) := fun o x u hx e => by rw [upd_ne hx]; exact e
    refine ⟨_, rfl, p, _, 0, _, rfl, rfl, SqL.of hp, rfl, _, _, rfl, rfl, _, rfl, ?_⟩
    refine ite2 (fun h1 => ?_) (fun h1 => ?_)
    · have h1' : 0 < a := of_decide_eq_true h1
      refine ⟨_, rfl, p, _, 0, _, rfl, rfl, SqL.of hp, rfl, _, rfl, _, _, rfl, rfl, hm, ?_⟩
      refine ⟨_, rfl, p, _, 0, _, rfl, rfl, SqL.of hp, rfl, _, rfl, _, _, rfl, rfl, wide_div hm hmb (by decide) (by decide), _, rfl, p, _, 0, 0, rfl, rfl, hp, rfl, ?_⟩
      refine ⟨_, rfl, k _ _ (Int.emod_nonneg _ (by omega)) (Int.emod_lt_of_pos _ hm) (sx _) ⟨a / many, b, c, upd_same, Int.ediv_nonneg ha (by omega), hb, hb2, hc, by omega⟩⟩
    · refine ⟨_, rfl, p, _, 2, _, rfl, rfl, SqL.of hp, rfl, _, _, rfl, rfl, _, rfl, p, _, 2, 2, rfl, rfl, hp, rfl, ?_⟩
      have hp2 : upd H p (.lst [.int a, .int b, .int (c + 1)]) p = some (.lst [.int a, .int b, .int (c + 1)]) := upd_same
      refine ⟨_, rfl, p, _, 1, _, rfl, rfl, SqL.of hp2, rfl, _, rfl, p, _, 2, _, rfl, rfl, SqL.of hp2, rfl, _, _, rfl, rfl, wide_mul (a := 64) (b := 64) (by decide) (by omega) (by decide) (by decide) (by decide), _, _, rfl, rfl, _, _, rfl, rfl, _, _, rfl, rfl, ⟨by decide, by decide, by omega⟩, _, _, rfl, rfl, (show (0 : Int) < 2147483647 by decide), ?_⟩
      generalize hx : ((b + 15488929 * (c + 1) + 1543) ^ (5 : Int).toNat) % 2147483647 = x
      have hx1 : 0 ≤ x := hx ▸ Int.emod_nonneg _ (by decide)
      have hx2 : x < 2147483647 := hx ▸ Int.emod_lt_of_pos _ (by decide)
      refine ⟨_, rfl, _, rfl, p, _, 2, _, rfl, rfl, SqL.of hp2, rfl, _, _, rfl, rfl, wide_mul (a := 64) (b := 64) (by decide) (by omega) (by decide) (by decide) (by decide), _, _, rfl, rfl, _, _, rfl, rfl, ⟨by decide, by decide, by omega⟩, _, _, rfl, rfl, (show (0 : Int) < 2147483587 by decide), ?_⟩
      generalize ((x + 104711 * (c + 1)) ^ (3 : Int).toNat) % 2147483587 = y
      refine ⟨_, rfl, _, _, rfl, rfl, wide_div (b := 10) (by decide) (by decide) (by decide) (by decide), _, rfl, _, _, rfl, rfl, hm, ?_⟩
      exact k _ _ (Int.emod_nonneg _ (by omega)) (Int.emod_lt_of_pos _ hm) (sx _) ⟨a, b, c + 1, upd_same, ha, hb, hb2, by omega, by omega⟩
end
end K02

set_option maxHeartbeats 4000000
namespace K02
open PySem PySem.Spec PyProof.Rows L2 AT
/-! ### pairs -/
/-- a pair of the law: a fraction -/
structure GoodP (n d : Int) : Prop where
  ne : d ≠ 0
  top : n.natAbs < 2 ^ 100
  bot : d.natAbs < 2 ^ 60
theorem GoodP.bits {n d : Int} (h : GoodP n d) : Bits 128 (Rat.divInt n d) := bits_of h.ne (Nat.lt_trans h.top (by decide)) (Nat.lt_trans h.bot (by decide))
theorem pair_iff {q : Rat} {n d : Int} (h : d ≠ 0) : (q.num * d = n * q.den) ↔ q = Rat.divInt n d := by
  have hd : (q.den : Int) ≠ 0 := den_ne q
  constructor
  · intro e
    have : Rat.divInt q.num q.den = Rat.divInt n d := (Rat.divInt_eq_divInt_iff hd h).mpr e
    rw [q_self] at this
    exact this
  · intro e
    have : Rat.divInt q.num q.den = Rat.divInt n d := by rw [q_self]; exact e
    exact (Rat.divInt_eq_divInt_iff hd h).mp this
theorem box_ne {H : Hp} {p q : Addr} {n : Nat} (h : BoxAt H p n) (g : H q = none) : q ≠ p := by
  rintro rfl
  obtain ⟨a, b, c, e, _⟩ := h
  rw [e] at g
  cases g
section
variable {P : Program} {w : World} {K : PySem.W.Frag} {mg : Str → Option Value} {base : Heap}
def spInt : Sp := fun vs H Q _ => ∃ (p : Addr) (n : Nat), vs = [.ref p] ∧ BoxAt H p n ∧ n ≤ 90000 ∧ ∀ (i : Int) H', i.natAbs < 2 ^ 97 → SameX p H H' → BoxAt H' p (n + 5) → Q (.int i) H'
theorem nat_of {r m : Int} (h0 : 0 ≤ r) (h1 : r < m) : ∃ j : Nat, r = j ∧ (j : Int) < m := by
  obtain ⟨j, rfl⟩ := Int.eq_ofNat_of_zero_le h0
  exact ⟨j, rfl, h1⟩
theorem sc_w_integer : FnScope ["_law_box_here", "_law_sign_here", "_law_some"] ["_law_box_here"] (defScope s_w_integer) := ⟨rfl, rfl, rfl, by decide +kernel, rfl, by decide +kernel, by decide +kernel⟩
theorem ok_w_integer (T : Tx K mg base) : Ok P w K mg base 2 (d_w_integer.loc K) ["_law_box_here"] spInt := by
  refine mk_ok (k := 1) T.f_w_integer sc_w_integer (fun _ _ _ _ _ _ us hl => match us, hl with | [_], _ => rfl) (fun vs H Q E h => ?_) (fun cdv A outer s H vs Q E hr h => ?_)
  · obtain ⟨p, n, rfl, _⟩ := h
    rfl
  · obtain ⟨p, n, rfl, hb, hn, k⟩ := h
    refine ⟨_, (pss_cons (ps_set (i := 1) sc_w_integer.nd rfl (Or.inl rfl) (pe_ix ix_list (pe_lst (pa_cons pe_int (pa_cons (pe_op op_sub pe_int pe_int) pa_nil))) (ok_call (ok_w_take T) (hr.mono (by decide)) rfl T.g_w_take passL (pa_cons (pv 0) (pa_cons pe_int pa_nil))) (fun _ _ => rfl)))
      (pss_cons (ps_set (i := 2) sc_w_integer.nd rfl (Or.inl rfl) (pe_lst (pa_cons pe_int (pa_cons pe_int (pa_cons (ok_call (ok_w_take T) (hr.mono (by decide)) rfl T.g_w_take passL (pa_cons (pv 0) (pa_cons pe_int pa_nil))) (pa_cons (ok_call (ok_w_take T) (hr.mono (by decide)) rfl T.g_w_take passL (pa_cons (pv 0) (pa_cons (pe_op op_pow pe_int pe_int) pa_nil))) (pa_cons (ok_call (ok_w_take T) (hr.mono (by decide)) rfl T.g_w_take passL (pa_cons (pv 0) (pa_cons (pe_op op_pow pe_int pe_int) pa_nil))) (pa_cons pe_int pa_nil))))))))
      (pss_one (ps_ret (pe_op op_mulW (pv 1) (pe_ix ix_list (pv 2) (ok_call (ok_w_take T) (hr.mono (by decide)) rfl T.g_w_take passL (pa_cons (pv 0) (pa_cons pe_int pa_nil))) (fun _ _ => rfl))))))), ?_⟩
    refine ⟨_, _, rfl, rfl, (by show 2 ≤ sizeLine; decide), fun q gq => ⟨_, rfl, p, 2, n, rfl, hb.up (AT.Same.up gq), by omega, by decide, by decide, fun r H1 h0 h1 sx1 b1 => ?_⟩⟩
    obtain ⟨j, rfl, hj⟩ := nat_of h0 h1
    have nq := box_ne hb gq
    have hq1 := sx1 q _ nq upd_same
    have s01 : SameX p H H1 := (sameX_of (AT.Same.up gq)).trans sx1
    have sg : ∃ s : Int, ([V.int 1, V.int (0 - 1)])[j]? = some (.int s) ∧ s.natAbs = 1 := match j, hj with
      | 0, _ => ⟨1, rfl, rfl⟩
      | 1, _ => ⟨-1, rfl, rfl⟩
      | j + 2, h => absurd h (by omega)
    obtain ⟨s, hs, hs1⟩ := sg
    refine ⟨q, _, _, _, rfl, rfl, SqL.of hq1, atI_nat hs, ?_⟩
    refine ⟨_, rfl, p, 13, n + 1, rfl, b1, by omega, by decide, by decide, fun r2 H2 g2 l2 sx2 b2 => ?_⟩
    refine ⟨_, rfl, _, _, rfl, rfl, ⟨by decide, by decide, by decide⟩, p, 10 ^ 6, n + 2, rfl, b2, by omega, by decide, by decide, fun r3 H3 g3 l3 sx3 b3 => ?_⟩
    refine ⟨_, rfl, _, _, rfl, rfl, ⟨by decide, by decide, by decide⟩, p, 10 ^ 29, n + 3, rfl, b3, by omega, by decide, by decide, fun r4 H4 g4 l4 sx4 b4 => ?_⟩
    refine ⟨(by show 6 ≤ sizeLine; decide), fun t gt => ?_⟩
    refine ⟨_, rfl, _, rfl, _, rfl, p, 6, n + 4, rfl, b4.up (AT.Same.up gt), by omega, by decide, by decide, fun r5 H5 g5 l5 sx5 b5 => ?_⟩
    obtain ⟨m, rfl, hm⟩ := nat_of g5 l5
    have nt := box_ne b4 gt
    have ht5 := sx5 t _ nt upd_same
    have s05 : SameX p H H5 := s01.trans (sx2.trans (sx3.trans (sx4.trans ((sameX_of (AT.Same.up gt)).trans sx5))))
    have vv : ∃ z : Int, ([V.int 0, V.int 1, V.int r2, V.int r3, V.int r4, V.int 360])[m]? = some (.int z) ∧ z.natAbs < 2 ^ 97 := match m, hm with
      | 0, _ => ⟨0, rfl, by decide⟩
      | 1, _ => ⟨1, rfl, by decide⟩
      | 2, _ => ⟨r2, rfl, by omega⟩
      | 3, _ => ⟨r3, rfl, by omega⟩
      | 4, _ => ⟨r4, rfl, by omega⟩
      | 5, _ => ⟨360, rfl, by decide⟩
      | m + 6, h => absurd h (by omega)
    obtain ⟨z, hz, hz1⟩ := vv
    refine ⟨t, _, _, _, rfl, rfl, SqL.of ht5, atI_nat hz, _, _, rfl, rfl, wide_mul (a := 2) (b := 97) (by omega) hz1 (by decide) (by decide) (by decide), ?_⟩
    refine k _ _ ?_ s05 b5
    rw [Int.natAbs_mul, hs1, Nat.one_mul]
    exact hz1
def spPairW : Sp := fun vs H Q _ => ∃ (p : Addr) (n : Nat), vs = [.ref p] ∧ BoxAt H p n ∧ n ≤ 80000 ∧ ∀ (q : Addr) (a b : Int) H', GoodP a b → q ≠ p → H q = none → H' q = some (.tup [.int a, .int b]) → SameX p H H' → BoxAt H' p (n + 11) → Q (.ref q) H'
theorem sc_w_pair : FnScope ["_law_box_here", "_law_factor", "_law_bottom"] ["_law_box_here"] (defScope s_w_pair) := ⟨rfl, rfl, rfl, by decide +kernel, rfl, by decide +kernel, by decide +kernel⟩
theorem ok_w_pair (T : Tx K mg base) : Ok P w K mg base 3 (d_w_pair.loc K) ["_law_box_here"] spPairW := by
  refine mk_ok (k := 2) T.f_w_pair sc_w_pair (fun _ _ _ _ _ _ us hl => match us, hl with | [_], _ => rfl) (fun vs H Q E h => ?_) (fun cdv A outer s H vs Q E hr h => ?_)
  · obtain ⟨p, n, rfl, _⟩ := h
    rfl
  · obtain ⟨p, n, rfl, hb, hn, k⟩ := h
    refine ⟨_, (pss_cons (ps_set (i := 1) sc_w_pair.nd rfl (Or.inl rfl) (pe_ix ix_list (pe_lst (pa_cons pe_int (pa_cons (pe_op op_add pe_int (ok_call (ok_w_take T) (hr.mono (by decide)) rfl T.g_w_take passL (pa_cons (pv 0) (pa_cons pe_int pa_nil)))) (pa_cons (pe_op op_pow pe_int pe_int) pa_nil)))) (ok_call (ok_w_take T) (hr.mono (by decide)) rfl T.g_w_take passL (pa_cons (pv 0) (pa_cons pe_int pa_nil))) (fun _ _ => rfl)))
      (pss_cons (ps_set (i := 2) sc_w_pair.nd rfl (Or.inl rfl) (pe_ix ix_list (pe_lst (pa_cons pe_int (pa_cons (pe_op op_add pe_int (ok_call (ok_w_take T) (hr.mono (by decide)) rfl T.g_w_take passL (pa_cons (pv 0) (pa_cons pe_int pa_nil)))) (pa_cons (pe_op op_add pe_int (ok_call (ok_w_take T) (hr.mono (by decide)) rfl T.g_w_take passL (pa_cons (pv 0) (pa_cons (pe_op op_pow pe_int pe_int) pa_nil)))) pa_nil)))) (ok_call (ok_w_take T) (hr.mono (by decide)) rfl T.g_w_take passL (pa_cons (pv 0) (pa_cons pe_int pa_nil))) (fun _ _ => rfl)))
      (pss_one (ps_ret (pe_tup (pa_cons (pe_op op_mod (pe_op op_mulW (ok_call (ok_w_integer T) (hr.mono (by decide)) rfl T.g_w_integer passL (pa_cons (pv 0) pa_nil)) (pv 1)) (pe_op op_pow pe_int pe_int)) (pa_cons (pe_op op_mulW (pe_op op_mulW (pe_ix ix_list (pe_lst (pa_cons pe_int (pa_cons (pe_op op_sub pe_int pe_int) pa_nil))) (ok_call (ok_w_take T) (hr.mono (by decide)) rfl T.g_w_take passL (pa_cons (pv 0) (pa_cons pe_int pa_nil))) (fun _ _ => rfl)) (pv 2)) (pv 1)) pa_nil))))))), ?_⟩
    refine ⟨_, rfl, p, 9, n, rfl, hb, by omega, by decide, by decide, fun r1 H1 g1 l1 sx1 b1 => ?_⟩
    refine ⟨_, _, rfl, rfl, _, _, rfl, rfl, ⟨by decide, by decide, by decide⟩, (by show 3 ≤ sizeLine; decide), fun q1 gq1 => ?_⟩
    refine ⟨_, rfl, p, 3, n + 1, rfl, b1.up (AT.Same.up gq1), by omega, by decide, by decide, fun r2 H2 g2 l2 sx2 b2 => ?_⟩
    obtain ⟨j, rfl, hj⟩ := nat_of g2 l2
    have h12 := sx2 q1 _ (box_ne b1 gq1) upd_same
    have fa : ∃ f : Int, ([V.int 1, V.int (1 + r1), V.int ((10 : Int) ^ (6 : Int).toNat)])[j]? = some (.int f) ∧ 0 < f ∧ f ≤ 1000000 := match j, hj with
      | 0, _ => ⟨1, rfl, by decide, by decide⟩
      | 1, _ => ⟨1 + r1, rfl, by omega, by omega⟩
      | 2, _ => ⟨_, rfl, by decide, by decide⟩
      | j + 3, h => absurd h (by omega)
    obtain ⟨f, hf, hf0, hf1⟩ := fa
    refine ⟨q1, _, _, _, rfl, rfl, SqL.of h12, atI_nat hf, ?_⟩
    have s02 : SameX p H H2 := sx1.trans ((sameX_of (AT.Same.up gq1)).trans sx2)
    refine ⟨_, rfl, p, 12, n + 2, rfl, b2, by omega, by decide, by decide, fun r3 H3 g3 l3 sx3 b3 => ?_⟩
    refine ⟨_, _, rfl, rfl, _, rfl, _, _, rfl, rfl, ⟨by decide, by decide, by decide⟩, p, 10 ^ 6, n + 3, rfl, b3, by omega, by decide, by decide, fun r4 H4 g4 l4 sx4 b4 => ?_⟩
    refine ⟨_, _, rfl, rfl, (by show 3 ≤ sizeLine; decide), fun q2 gq2 => ?_⟩
    refine ⟨_, rfl, p, 3, n + 4, rfl, b4.up (AT.Same.up gq2), by omega, by decide, by decide, fun r5 H5 g5 l5 sx5 b5 => ?_⟩
    obtain ⟨m, rfl, hm⟩ := nat_of g5 l5
    have h25 := sx5 q2 _ (box_ne b4 gq2) upd_same
    have bo : ∃ f : Int, ([V.int 1, V.int (1 + r3), V.int (1 + r4)])[m]? = some (.int f) ∧ 0 < f ∧ f ≤ 1000000 := match m, hm with
      | 0, _ => ⟨1, rfl, by decide, by decide⟩
      | 1, _ => ⟨1 + r3, rfl, by omega, by omega⟩
      | 2, _ => ⟨1 + r4, rfl, by omega, by omega⟩
      | j + 3, h => absurd h (by omega)
    obtain ⟨b, hbm, hb0, hb1⟩ := bo
    refine ⟨q2, _, _, _, rfl, rfl, SqL.of h25, atI_nat hbm, ?_⟩
    have s05 : SameX p H H5 := s02.trans (sx3.trans (sx4.trans ((sameX_of (AT.Same.up gq2)).trans sx5)))
    refine ⟨_, rfl, p, n + 5, rfl, b5, by omega, fun i H6 hi sx6 b6 => ?_⟩
    refine ⟨_, rfl, _, _, rfl, rfl, wide_mul (a := 97) (b := 30) hi (by omega) (by decide) (by decide) (by decide), _, _, rfl, rfl, ⟨by decide, by decide, by decide⟩, _, _, rfl, rfl, (show (0 : Int) < (10 : Int) ^ (30 : Int).toNat by decide), ?_⟩
    refine ⟨_, _, rfl, rfl, (by show 2 ≤ sizeLine; decide), fun q3 gq3 => ?_⟩
    refine ⟨_, rfl, p, 2, n + 10, rfl, b6.up (AT.Same.up gq3), by omega, by decide, by decide, fun r7 H7 g7 l7 sx7 b7 => ?_⟩
    obtain ⟨j, rfl, hj⟩ := nat_of g7 l7
    have h37 := sx7 q3 _ (box_ne b6 gq3) upd_same
    have sg : ∃ s : Int, ([V.int 1, V.int (0 - 1)])[j]? = some (.int s) ∧ s.natAbs = 1 := match j, hj with
      | 0, _ => ⟨1, rfl, rfl⟩
      | 1, _ => ⟨-1, rfl, rfl⟩
      | j + 2, h => absurd h (by omega)
    obtain ⟨s, hs, hs1⟩ := sg
    refine ⟨q3, _, _, _, rfl, rfl, SqL.of h37, atI_nat hs, _, rfl, _, _, rfl, rfl, wide_mul (a := 2) (b := 30) (by omega) (by omega) (by decide) (by decide) (by decide), _, rfl, _, _, rfl, rfl, ?_, (by show 2 ≤ sizeLine; decide), fun q gq => ?_⟩
    · refine wide_mul (a := 32) (b := 30) ?_ (by omega) (by decide) (by decide) (by decide)
      rw [Int.natAbs_mul, hs1]
      omega
    · have s07 : SameX p H H7 := s05.trans (sx6.trans ((sameX_of (AT.Same.up gq3)).trans sx7))
      have nq := box_ne b7 gq
      refine k q _ _ _ ⟨?_, ?_, ?_⟩ nq (by
        cases z : H q with
        | none => rfl
        | some o => rw [s07 q o nq z] at gq; cases gq) upd_same (s07.trans (sameX_of (AT.Same.up gq))) (b7.up (AT.Same.up gq))
      · refine Int.mul_ne_zero (Int.mul_ne_zero (by omega) (by omega)) (by omega)
      · have h1 := Int.emod_nonneg (i * f) (b := (10 : Int) ^ (30 : Int).toNat) (by decide)
        have h2 := Int.emod_lt_of_pos (i * f) (b := (10 : Int) ^ (30 : Int).toNat) (by decide)
        have h3 : ((10 : Int) ^ (30 : Int).toNat) < 2 ^ 100 := by decide
        omega
      · rw [Int.natAbs_mul, Int.natAbs_mul, hs1, Nat.one_mul]
        have e1 : b.natAbs ≤ 1000000 := by omega
        have e2 : f.natAbs ≤ 1000000 := by omega
        exact Nat.lt_of_le_of_lt (Nat.mul_le_mul e1 e2) (by decide)
end
end K02

set_option maxHeartbeats 4000000
namespace K02
open PySem PySem.Spec PyProof.Rows L2 AT
theorem sq_pos {z : Int} (h : z ≠ 0) : 0 < z * z := by
  rcases Int.lt_or_gt_of_ne h with g | g
  · exact Int.mul_pos_of_neg_of_neg g g
  · exact Int.mul_pos g g
theorem lt_pair {a b c d : Int} (hb : b ≠ 0) (hd : d ≠ 0) : Rat.divInt a b < Rat.divInt c d ↔ a * b * (d * d) < c * d * (b * b) := by
  generalize hx : Rat.divInt a b = x
  generalize hy : Rat.divInt c d = y
  have ex : x.num * b = a * x.den := (pair_iff hb).mpr hx.symm
  have ey : y.num * d = c * y.den := (pair_iff hd).mpr hy.symm
  have bb : 0 < (b * b) * (d * d) := Int.mul_pos (sq_pos hb) (sq_pos hd)
  have dd : 0 < (x.den : Int) * y.den := Int.mul_pos (by have := x.den_pos; omega) (by have := y.den_pos; omega)
  have e1 : x.num * y.den * ((b * b) * (d * d)) = (a * b * (d * d)) * ((x.den : Int) * y.den) := by
    have : x.num * y.den * ((b * b) * (d * d)) = (x.num * b) * (y.den * (b * (d * d))) := by ac_rfl
    rw [this, ex]
    ac_rfl
  have e2 : y.num * x.den * ((b * b) * (d * d)) = (c * d * (b * b)) * ((x.den : Int) * y.den) := by
    have : y.num * x.den * ((b * b) * (d * d)) = (y.num * d) * (x.den * (d * (b * b))) := by ac_rfl
    rw [this, ey]
    ac_rfl
  rw [Rat.lt_iff, ← Int.mul_lt_mul_right bb, e1, e2, Int.mul_lt_mul_right dd]
/-- the law's comparison of two pairs -/
def sgnP (a b c d : Int) : Int := cmpQ (Rat.divInt a b) (Rat.divInt c d)
section
variable {P : Program} {w : World} {K : PySem.W.Frag} {mg : Str → Option Value} {base : Heap}
def spIsP (K : PySem.W.Frag) : Sp := fun vs H Q _ => ∃ (a t : Addr) (q : Rat) (n d : Int), vs = [.ref a, .ref t] ∧ IsQ K H a q ∧ Bits 3000 q ∧ H t = some (.tup [.int n, .int d]) ∧ d ≠ 0 ∧ n.natAbs < 2 ^ 3000 ∧ d.natAbs < 2 ^ 3000 ∧ Q (.bl (decide (q = Rat.divInt n d))) H
theorem sc_w_is_pair : FnScope ["_law_amount", "_law_pair_here", "_law_one", "_law_other"] ["_law_amount", "_law_pair_here"] (defScope s_w_is_pair) := ⟨rfl, rfl, rfl, by decide +kernel, rfl, by decide +kernel, by decide +kernel⟩
theorem ok_w_is_pair (T : Tx K mg base) : Ok P w K mg base 3 (d_w_is_pair.loc K) ["_law_amount", "_law_pair_here"] (spIsP K) := by
  refine mk_ok (k := 2) T.f_w_is_pair sc_w_is_pair (fun _ _ _ _ _ _ us hl => match us, hl with | [_, _], _ => rfl) (fun vs H Q E h => ?_) (fun cdv A outer s H vs Q E hr h => ?_)
  · obtain ⟨a, t, q, n, d, rfl, _⟩ := h
    rfl
  · obtain ⟨a, t, q, n, d, rfl, ha, bq, ht, hd, hn3, hd3, k⟩ := h
    refine ⟨_, (pss_cons (ps_if (PW.pt (pw_or (pt_not (pt_val (pe_callB call_isi (by rfl) T.b_isinstance (by decide +kernel) (pa_cons (pv 0) (pa_cons (pe_gr T.g_Amount) pa_nil))))) (pw_or (pt_cmpR op_lt (ok_prop T.cls_Amount T.pr_Amount_bottom (ok_Amount_bottom T) (hr.mono (by decide)) (pv 0)) pe_int (nomark _)) (pw_or1 (pt_cmpR op_ne (pe_op op_mulW (ok_prop T.cls_Amount T.pr_Amount_top (ok_Amount_top T) (hr.mono (by decide)) (pv 0)) (pe_ix ix_tup (pv 1) pe_int (fun _ _ => rfl))) (pe_op op_mulW (pe_ix ix_tup (pv 1) pe_int (fun _ _ => rfl)) (ok_prop T.cls_Amount T.pr_Amount_bottom (ok_Amount_bottom T) (hr.mono (by decide)) (pv 0))) (nomark _)))))) (pss_one (ps_ret pe_bl)) pss_nil)
      (pss_cons (ps_par (by rfl) sc_w_is_pair.nd (i := 2) (j := 3) rfl rfl (by decide) rfl rfl (pa_cons (pe_callB call_abs (by rfl) T.b_abs (by decide +kernel) (pa_cons (ok_prop T.cls_Amount T.pr_Amount_top (ok_Amount_top T) (hr.mono (by decide)) (pv 0)) pa_nil)) (pa_cons (ok_prop T.cls_Amount T.pr_Amount_bottom (ok_Amount_bottom T) (hr.mono (by decide)) (pv 0)) pa_nil)) (by rfl))
      (pss_cons (ps_while (passes_of rfl) (pt_cmpR op_gt (pv 3) pe_int (nomark _)) (pss_one (ps_par (by rfl) sc_w_is_pair.nd (i := 2) (j := 3) rfl rfl (by decide) rfl rfl (pa_cons (pv 3) (pa_cons (pe_op op_mod (pv 2) (pv 3)) pa_nil)) (by rfl))))
      (pss_one (ps_ret (pe_cmpR op_eq (pv 2) pe_int (nomark _))))))), ?_⟩
    obtain ⟨da, ha1⟩ := id ha
    refine ⟨_, rfl, _, _, _, _, _, rfl, .own _, T.ins_Amount ha1, T.k_Amount_Amount, _, rfl, iteF ?_⟩
    refine ⟨_, rfl, a, da, _, rfl, ha1, a, q, rfl, ha, _, _, rfl, rfl, _, rfl, ?_⟩
    rw [decide_eq_false (show ¬ (q.den : Int) < 1 by have := q.den_pos; omega)]
    refine iteF ⟨_, rfl, a, da, _, rfl, ha1, a, q, rfl, ha, _, rfl, t, _, 1, _, rfl, rfl, SqT.of ht, rfl, _, _, rfl, rfl, mul_ok bq.1 hd3, ?_⟩
    refine ⟨_, rfl, t, _, 0, _, rfl, rfl, SqT.of ht, rfl, _, rfl, a, da, _, rfl, ha1, a, q, rfl, ha, _, _, rfl, rfl, mul_ok hn3 (den_bits bq), rfl, _, rfl, ?_⟩
    by_cases e : q = Rat.divInt n d
    · rw [decide_eq_true e] at k
      have e2 := (pair_iff hd).mpr e
      rw [decide_eq_true (congrArg V.int e2)]
      refine iteF ⟨_, rfl, a, da, _, rfl, ha1, a, q, rfl, ha, q.num, rfl, _, rfl, a, da, _, rfl, ha1, a, q, rfl, ha, _, _, rfl, ?_⟩
      refine ⟨fun m σ H' => ∃ a' b' : Int, σ = ([some (.ref a), some (.ref t), some (.int a'), some (.int b')] : L2.St) ∧ H' = H ∧ 0 ≤ a' ∧ 0 ≤ b' ∧ Int.gcd a' b' = 1 ∧ m = b'.toNat, ⟨_, _, _, rfl, rfl, (by split <;> omega), (by omega), ?_, rfl⟩, ?_⟩
      · have r := q.reduced
        have e3 : (if q.num < 0 then -q.num else q.num).natAbs = q.num.natAbs := by split <;> simp
        show Nat.gcd _ _ = 1
        rw [e3]
        exact r
      rintro m σ H' ⟨a', b', rfl, rfl, ha', hb', hg, rfl⟩
      refine ⟨_, rfl, _, _, rfl, rfl, _, rfl, ?_⟩
      refine ite2 (fun h1 => ?_) (fun h1 => ?_)
      · have h1' : 0 < b' := of_decide_eq_true h1
        refine ⟨fun σ2 H2 => ∃ a2 b2 : Int, σ2 = ([some (.ref a), some (.ref t), some (.int a2), some (.int b2)] : L2.St) ∧ H2 = H' ∧ 0 ≤ a2 ∧ 0 ≤ b2 ∧ Int.gcd a2 b2 = 1 ∧ b2 < b', ?_, ?_⟩
        · rintro σ2 H2 ⟨a2, b2, rfl, rfl, h2, h3, h4, h5⟩
          exact ⟨b2.toNat, by omega, a2, b2, rfl, rfl, h2, h3, h4, rfl⟩
        · refine ⟨_, rfl, _, rfl, _, rfl, _, _, rfl, rfl, h1', _, _, rfl, ?_⟩
          exact ⟨b', a' % b', rfl, rfl, hb', Int.emod_nonneg _ (by omega), by rw [gcd_turn ha' h1', hg], Int.emod_lt_of_pos _ h1'⟩
      · have h0 : b' = 0 := by
          have := of_decide_eq_false (by simpa using h1 : decide (0 < b') = false)
          omega
        subst h0
        have ea : a' = 1 := by
          rw [Int.gcd_zero_right] at hg
          omega
        subst ea
        exact ⟨_, rfl, rfl, k⟩
    · rw [decide_eq_false e] at k
      rw [decide_eq_false (fun z => e ((pair_iff hd).mp (V.int.inj z)))]
      exact iteT k
def spSign : Sp := fun vs H Q _ => ∃ (s t : Addr) (a b c d : Int), vs = [.ref s, .ref t] ∧ H s = some (.tup [.int a, .int b]) ∧ H t = some (.tup [.int c, .int d]) ∧ GoodP a b ∧ GoodP c d ∧ Q (.int (sgnP a b c d)) H
theorem sc_w_sign : FnScope ["_law_one", "_law_other", "_law_left", "_law_right"] ["_law_one", "_law_other"] (defScope s_w_sign) := ⟨rfl, rfl, rfl, by decide +kernel, rfl, by decide +kernel, by decide +kernel⟩
theorem ok_w_sign (T : Tx K mg base) : Ok P w K mg base 1 (d_w_sign.loc K) ["_law_one", "_law_other"] spSign := by
  refine mk_ok (k := 0) T.f_w_sign sc_w_sign (fun _ _ _ _ _ _ us hl => match us, hl with | [_, _], _ => rfl) (fun vs H Q E h => ?_) (fun cdv A outer s H vs Q E hr h => ?_)
  · obtain ⟨s, t, a, b, c, d, rfl, _⟩ := h
    rfl
  · obtain ⟨s, t, a, b, c, d, rfl, hs, ht, g1, g2, k⟩ := h
    refine ⟨_, (pss_cons (ps_set (i := 2) sc_w_sign.nd rfl (Or.inl rfl) (pe_op op_mulW (pe_op op_mulW (pe_ix ix_tup (pv 0) pe_int (fun _ _ => rfl)) (pe_ix ix_tup (pv 0) pe_int (fun _ _ => rfl))) (pe_op op_pow (pe_ix ix_tup (pv 1) pe_int (fun _ _ => rfl)) pe_int)))
      (pss_cons (ps_set (i := 3) sc_w_sign.nd rfl (Or.inl rfl) (pe_op op_mulW (pe_op op_mulW (pe_ix ix_tup (pv 1) pe_int (fun _ _ => rfl)) (pe_ix ix_tup (pv 1) pe_int (fun _ _ => rfl))) (pe_op op_pow (pe_ix ix_tup (pv 0) pe_int (fun _ _ => rfl)) pe_int)))
      (pss_one (ps_ret (pe_op op_sub (pe_callTy call_int1 (by rfl) T.b_int (by decide +kernel) (pa_cons (pe_cmpR op_gt (pv 2) (pv 3) (nomark _)) pa_nil)) (pe_callTy call_int1 (by rfl) T.b_int (by decide +kernel) (pa_cons (pe_cmpR op_lt (pv 2) (pv 3) (nomark _)) pa_nil))))))), ?_⟩
    have pw : ∀ z : Int, z.natAbs < 2 ^ 60 → (z ^ (2 : Int).toNat).natAbs < 2 ^ 120 := fun z hz => by
      rw [show (2 : Int).toNat = 2 from rfl, Int.pow_succ, Int.pow_succ, Int.pow_zero, Int.one_mul]
      exact mul_bits hz hz
    refine ⟨_, rfl, s, _, 0, _, rfl, rfl, SqT.of hs, rfl, _, rfl, s, _, 1, _, rfl, rfl, SqT.of hs, rfl, _, _, rfl, rfl, wide_mul (a := 100) (b := 60) g1.top g1.bot (by decide) (by decide) (by decide), ?_⟩
    refine ⟨_, rfl, t, _, 1, _, rfl, rfl, SqT.of ht, rfl, _, _, rfl, rfl, ⟨by decide, by decide, Nat.lt_trans g2.bot (by decide)⟩, _, _, rfl, rfl, wide_mul (a := 160) (b := 120) (mul_bits g1.top g1.bot) (pw _ g2.bot) (by decide) (by decide) (by decide), ?_⟩
    refine ⟨_, rfl, t, _, 0, _, rfl, rfl, SqT.of ht, rfl, _, rfl, t, _, 1, _, rfl, rfl, SqT.of ht, rfl, _, _, rfl, rfl, wide_mul (a := 100) (b := 60) g2.top g2.bot (by decide) (by decide) (by decide), ?_⟩
    refine ⟨_, rfl, s, _, 1, _, rfl, rfl, SqT.of hs, rfl, _, _, rfl, rfl, ⟨by decide, by decide, Nat.lt_trans g1.bot (by decide)⟩, _, _, rfl, rfl, wide_mul (a := 160) (b := 120) (mul_bits g2.top g2.bot) (pw _ g1.bot) (by decide) (by decide) (by decide), ?_⟩
    have sq : ∀ z : Int, z ^ (2 : Int).toNat = z * z := fun z => by
      rw [show (2 : Int).toNat = 2 from rfl, Int.pow_succ, Int.pow_succ, Int.pow_zero, Int.one_mul]
    have e : sgnP a b c d = (if decide (a * b * d ^ (2 : Int).toNat > c * d * b ^ (2 : Int).toNat) = true then 1 else 0) - (if decide (a * b * d ^ (2 : Int).toNat < c * d * b ^ (2 : Int).toNat) = true then 1 else 0) := by
      unfold sgnP cmpQ
      simp only [decide_eq_true_eq, sq, lt_pair g1.ne g2.ne, lt_pair g2.ne g1.ne, gt_iff_lt]
    rw [e] at k
    exact ⟨_, rfl, _, rfl, _, _, rfl, rfl, .inr ⟨_, rfl, _, rfl, _, rfl, _, _, rfl, rfl, .inr ⟨_, rfl, _, _, rfl, rfl, k⟩⟩⟩
end
end K02

set_option maxHeartbeats 4000000
namespace K02
open PySem PySem.Spec PyProof.Rows L2 AT
section
variable {P : Program} {w : World} {K : PySem.W.Frag} {mg : Str → Option Value} {base : Heap}
theorem flat_any {H : Hp} {v : V} {Ty : String} (h : FlatV H v Ty) : AnyV K H v := by
  cases h with
  | non => exact .non
  | bl b => exact .bl b
  | int i => exact .int i
  | str x => exact .str x
  | lst e => exact .lst e
  | tup e => exact .tup e
  | dct e => exact .dct e
theorem flat_up {H H' : Hp} {v : V} {Ty : String} (h : FlatV H v Ty) (s : Same H H') : FlatV H' v Ty := by
  cases h with
  | non => exact .non
  | bl b => exact .bl b
  | int i => exact .int i
  | str x => exact .str x
  | lst e => exact .lst (s _ _ e)
  | tup e => exact .tup (s _ _ e)
  | dct e => exact .dct (s _ _ e)
theorem flat_ty {H : Hp} {v : V} {Ty : String} (h : FlatV H v Ty) : TyX K H v (.type Ty) := by
  cases h with
  | non => exact .base .non
  | bl b => exact .base (.bl b)
  | int i => exact .base (.int i)
  | str x => exact .base (.str x)
  | lst e => exact .base (.lst e)
  | tup e => exact .base (.tup e)
  | dct e => exact .base (.dK e)
theorem flat_no {H : Hp} {v : V} {Ty : String} (h : FlatV H v Ty) : ∀ b, v = .ref b → ∀ q, ¬ IsQ K H b q := by
  intro b e q ⟨dx, z⟩
  cases h with
  | lst e2 => cases e; rw [e2] at z; cases z
  | tup e2 => cases e; rw [e2] at z; cases z
  | dct e2 => cases e; rw [e2] at z; cases z
  | _ => cases e
theorem flat_isA {H : Hp} {v : V} {Ty : String} (h : FlatV H v Ty) (hw : wholeV v = false) : ¬ isA K H v := by
  rintro ⟨q, hq⟩
  cases hq with
  | int i => exact nomatch hw
  | obj hq => exact flat_no h _ rfl q hq
/-- _law_told: what is refused -/
def spTold (K : PySem.W.Frag) : Sp := fun vs H Q _ => ∃ (at_ : Nat) (a : Addr) (x : Rat) (v : V), vs = [.int at_, .ref a, v] ∧ at_ < 8 ∧ IsQ K H a x ∧ Bits 128 x ∧
  ((∃ Ty, FlatV H v Ty ∧ wholeV v = false) ∨ (at_ = 1 ∧ Qv K H v 0)) ∧ ∀ q H', Same H H' → H q = none → H' q = some (.lst [.str "amount", v]) → Q (.ref q) H'
theorem sc_w_told : FnScope ["_law_at", "_law_one", "_law_thing", "e"] ["_law_at", "_law_one", "_law_thing"] (defScope s_w_told) := ⟨rfl, rfl, rfl, by decide +kernel, rfl, by decide +kernel, by decide +kernel⟩
theorem ok_w_told (T : Tx K mg base) : Ok P w K mg base 12 (d_w_told.loc K) ["_law_at", "_law_one", "_law_thing"] (spTold K) := by
  refine mk_ok (k := 11) T.f_w_told sc_w_told (fun _ _ _ _ _ _ us hl => match us, hl with | [_, _, _], _ => rfl) (fun vs H Q E h => ?_) (fun cdv A outer s H vs Q E hr h => ?_)
  · obtain ⟨n, a, x, v, rfl, _⟩ := h
    rfl
  · obtain ⟨n, a, x, v, rfl, hn, ha, bx, hv, k⟩ := h
    refine ⟨_, (pss_cons (ps_try_mas (tb := _) rfl rfl takes0 (fun W pn xe tk _ => (pss_one (ps_if (pt_cmpR op_eq (pv 0) pe_int (nomark _)) (pss_one (ps_expr (ok_methS T.cls_Amount T.m_Amount_compare (ok_Amount_compare T) (hr.mono (by decide)) tk (pv 1) (pa_cons (pv 2) pa_nil)))) (pss_one (ps_if (pt_cmpR op_eq (pv 0) pe_int (nomark _)) (pss_one (ps_expr (ok_methS T.cls_Amount T.m_Amount_divided (ok_Amount_divided T) (hr.mono (by decide)) tk (pv 1) (pa_cons (pv 2) pa_nil)))) (pss_one (ps_if (pt_cmpR op_eq (pv 0) pe_int (nomark _)) (pss_one (ps_ret (pe_lst (pa_cons pe_str (pa_cons (pe_opS (show OpRS _ _ (fun σ => rOwn K (cA K) (spBin (fun x y => x + y) K) (fun cls d H => W cls d σ H)) from op_ownS T.op_Amount_add (ok_Amount_add_ T) (hr.mono (by decide)) tk) (pv 1) (pv 2)) pa_nil))))) (pss_one (ps_if (pt_cmpR op_eq (pv 0) pe_int (nomark _)) (pss_one (ps_ret (pe_lst (pa_cons pe_str (pa_cons (pe_opS (show OpRS _ _ (fun σ => rOwn K (cA K) (spBin (fun x y => x - y) K) (fun cls d H => W cls d σ H)) from op_ownS T.op_Amount_sub (ok_Amount_sub_ T) (hr.mono (by decide)) tk) (pv 1) (pv 2)) pa_nil))))) (pss_one (ps_if (pt_cmpR op_eq (pv 0) pe_int (nomark _)) (pss_one (ps_ret (pe_lst (pa_cons pe_str (pa_cons (pe_opS (show OpRS _ _ (fun σ => rOwn K (cA K) (spBin (fun x y => x * y) K) (fun cls d H => W cls d σ H)) from op_ownS T.op_Amount_mul (ok_Amount_mul_ T) (hr.mono (by decide)) tk) (pv 1) (pv 2)) pa_nil))))) (pss_one (ps_if (pt_cmpR op_eq (pv 0) pe_int (nomark _)) (pss_one (ps_expr (ok_callRS (oks_total T) (hr.mono (by decide)) rfl T.g_total tk (pa_cons (pv 1) (pa_cons (pv 2) (pa_cons pe_non pa_nil)))))) (pss_one (ps_if (pt_cmpR op_eq (pv 0) pe_int (nomark _)) (pss_one (ps_expr (ok_callRS (oks_least T) (hr.mono (by decide)) rfl T.g_least tk (pa_cons (pv 2) (pa_cons pe_non pa_nil))))) (pss_one (ps_expr (ok_callRS (oks_greatest T) (hr.mono (by decide)) rfl T.g_greatest tk (pa_cons (pv 1) (pa_cons (pv 2) pa_nil)))))))))))))))))))) (.cons sc_w_told.nd (i := 3) rfl rfl ⟨rfl, by decide, .inl T.g_InvalidAmount⟩ (fun a oe cls d pn hz hf => (pss_one (ps_ret (pe_lst (pa_cons pe_str (pa_cons (pe_xf T.xc_InvalidAmount.xf T.xc_InvalidAmount.no hz hf (pv 3)) pa_nil)))))) .nil))
      (pss_one (ps_ret (pe_lst (pa_cons pe_str pa_nil))))), ?_⟩
    obtain ⟨dx, h1⟩ := id ha
    have b3 : Bits 3000 x := bx.mono (by decide)
    have eqd : ∀ m : Nat, decide (V.int (n : Int) = V.int (m : Int)) = decide (n = m) := fun m => by
      by_cases c : n = m
      · subst c; simp
      · rw [decide_eq_false c, decide_eq_false (fun z => c (by have := V.int.inj z; omega))]
    have e0 := eqd 0
    have e1 := eqd 1
    have e2 := eqd 2
    have e3 := eqd 3
    have e4 := eqd 4
    have e5 := eqd 5
    have e6 := eqd 6
    rw [show ((0 : Nat) : Int) = 0 from rfl] at e0
    rw [show ((1 : Nat) : Int) = 1 from rfl] at e1
    rw [show ((2 : Nat) : Int) = 2 from rfl] at e2
    rw [show ((3 : Nat) : Int) = 3 from rfl] at e3
    rw [show ((4 : Nat) : Int) = 4 from rfl] at e4
    rw [show ((5 : Nat) : Int) = 5 from rfl] at e5
    rw [show ((6 : Nat) : Int) = 6 from rfl] at e6
    rcases hv with ⟨Ty, hv, hw⟩ | ⟨rfl, hv⟩
    · have hany : AnyV K H v := flat_any hv
      have hno : ¬ isA K H v := flat_isA hv hw
      have hty : ∃ Tz, (Value.type Ty) = .type Tz ∧ Tz ∈ tyNames := ⟨Ty, rfl, hv.mem⟩
      refine ⟨_, rfl, rfl, _, rfl, ?_⟩
      rw [e0]
      by_cases c : n = 0
      · rw [decide_eq_true c]
        refine iteT ⟨_, rfl, a, dx, _, rfl, h1, rfl, _, rfl, a, v, x, rfl, ha, b3, hany, .inr ⟨hw, hno, fun H2 d s2 hd2 hx => ⟨true, T.ex_InvalidAmount_InvalidAmount, fun _ a2 ha2 => ?_, nofun⟩⟩⟩
        exact ⟨_, rfl, rfl, rfl, d, _, v, rfl, hx, rfl, (by show 2 ≤ sizeLine; decide), fun q hq => k q _ (s2.trans (AT.Same.up hq)) (none_of s2 hq) upd_same⟩
      rw [decide_eq_false c]
      refine iteF ⟨_, rfl, rfl, _, rfl, ?_⟩
      rw [e1]
      by_cases c : n = 1
      · rw [decide_eq_true c]
        refine iteT ⟨_, rfl, a, dx, _, rfl, h1, rfl, _, rfl, a, v, x, rfl, ha, b3, hany, .inr (.inr ⟨hw, hno, fun H2 d s2 hd2 hx => ⟨true, T.ex_InvalidAmount_InvalidAmount, fun _ a2 ha2 => ?_, nofun⟩⟩)⟩
        exact ⟨_, rfl, rfl, rfl, d, _, v, rfl, hx, rfl, (by show 2 ≤ sizeLine; decide), fun q hq => k q _ (s2.trans (AT.Same.up hq)) (none_of s2 hq) upd_same⟩
      rw [decide_eq_false c]
      refine iteF ⟨_, rfl, rfl, _, rfl, ?_⟩
      rw [e2]
      by_cases c : n = 2
      · rw [decide_eq_true c]
        refine iteT ⟨_, rfl, _, rfl, a, dx, _, _, rfl, h1, flat_ty hv, .inr hty, a, v, x, rfl, ha, b3, hany, .inr ⟨hw, hno, fun H2 d s2 hd2 hx => ⟨true, T.ex_InvalidAmount_InvalidAmount, fun _ a2 ha2 => ?_, nofun⟩⟩⟩
        exact ⟨_, rfl, rfl, rfl, d, _, v, rfl, hx, rfl, (by show 2 ≤ sizeLine; decide), fun q hq => k q _ (s2.trans (AT.Same.up hq)) (none_of s2 hq) upd_same⟩
      rw [decide_eq_false c]
      refine iteF ⟨_, rfl, rfl, _, rfl, ?_⟩
      rw [e3]
      by_cases c : n = 3
      · rw [decide_eq_true c]
        refine iteT ⟨_, rfl, _, rfl, a, dx, _, _, rfl, h1, flat_ty hv, .inr hty, a, v, x, rfl, ha, b3, hany, .inr ⟨hw, hno, fun H2 d s2 hd2 hx => ⟨true, T.ex_InvalidAmount_InvalidAmount, fun _ a2 ha2 => ?_, nofun⟩⟩⟩
        exact ⟨_, rfl, rfl, rfl, d, _, v, rfl, hx, rfl, (by show 2 ≤ sizeLine; decide), fun q hq => k q _ (s2.trans (AT.Same.up hq)) (none_of s2 hq) upd_same⟩
      rw [decide_eq_false c]
      refine iteF ⟨_, rfl, rfl, _, rfl, ?_⟩
      rw [e4]
      by_cases c : n = 4
      · rw [decide_eq_true c]
        refine iteT ⟨_, rfl, _, rfl, a, dx, _, _, rfl, h1, flat_ty hv, .inr hty, a, v, x, rfl, ha, b3, hany, .inr ⟨hw, hno, fun H2 d s2 hd2 hx => ⟨true, T.ex_InvalidAmount_InvalidAmount, fun _ a2 ha2 => ?_, nofun⟩⟩⟩
        exact ⟨_, rfl, rfl, rfl, d, _, v, rfl, hx, rfl, (by show 2 ≤ sizeLine; decide), fun q hq => k q _ (s2.trans (AT.Same.up hq)) (none_of s2 hq) upd_same⟩
      rw [decide_eq_false c]
      refine iteF ⟨_, rfl, rfl, _, rfl, ?_⟩
      rw [e5]
      have two : ∀ {p : Addr} {xs : List V}, H p = none → AnyV K (upd H p (.tup xs)) v ∧ ¬ isA K (upd H p (.tup xs)) v := fun {p xs} gp => ⟨hany.up (AT.Same.up gp), flat_isA (flat_up hv (AT.Same.up gp)) hw⟩
      by_cases c : n = 5
      · rw [decide_eq_true c]
        refine iteT ⟨_, rfl, _, rfl, (by show 3 ≤ sizeLine; decide), fun p gp => ⟨p, _, rfl, upd_same, (by show 3 ≤ 20; decide), fun y hy => ?_, .inr ⟨1, v, rfl, fun j y hj hy => ?_, hw, (two gp).2, fun H2 d s2 hd2 hx => ⟨true, T.ex_InvalidAmount_InvalidAmount, fun _ a2 ha2 => ?_, nofun⟩⟩⟩⟩
        · simp only [List.mem_cons, List.not_mem_nil, or_false] at hy
          rcases hy with rfl | rfl | rfl
          · exact .amt (ha.up (AT.Same.up gp))
          · exact (two gp).1
          · exact .non
        · obtain rfl : j = 0 := by omega
          cases hy
          exact ⟨x, .obj (ha.up (AT.Same.up gp))⟩
        · exact ⟨_, rfl, rfl, rfl, d, _, v, rfl, hx, rfl, (by show 2 ≤ sizeLine; decide), fun q hq => k q _ (((AT.Same.up gp).trans s2).trans (AT.Same.up hq)) (none_of ((AT.Same.up gp).trans s2) hq) upd_same⟩
      rw [decide_eq_false c]
      refine iteF ⟨_, rfl, rfl, _, rfl, ?_⟩
      rw [e6]
      by_cases c : n = 6
      · rw [decide_eq_true c]
        refine iteT ⟨_, rfl, (by show 2 ≤ sizeLine; decide), fun p gp => ⟨p, rfl, p, _, _, rfl, upd_same, (by show 2 ≤ 20; decide), fun y hy => ?_, .inr ⟨nofun, .inr ⟨0, v, rfl, fun j y hj hy => absurd hj (by omega), hw, (two gp).2, fun H2 d s2 hd2 hx => ⟨true, T.ex_InvalidAmount_InvalidAmount, fun _ a2 ha2 => ?_, nofun⟩⟩⟩⟩⟩
        · simp only [List.mem_cons, List.not_mem_nil, or_false] at hy
          rcases hy with rfl | rfl
          · exact (two gp).1
          · exact .non
        · exact ⟨_, rfl, rfl, rfl, d, _, v, rfl, hx, rfl, (by show 2 ≤ sizeLine; decide), fun q hq => k q _ (((AT.Same.up gp).trans s2).trans (AT.Same.up hq)) (none_of ((AT.Same.up gp).trans s2) hq) upd_same⟩
      rw [decide_eq_false c]
      refine iteF ⟨_, rfl, _, rfl, (by show 2 ≤ sizeLine; decide), fun p gp => ⟨p, rfl, p, _, _, rfl, upd_same, (by show 2 ≤ 20; decide), fun y hy => ?_, .inr ⟨nofun, .inr ⟨1, v, rfl, fun j y hj hy => ?_, hw, (two gp).2, fun H2 d s2 hd2 hx => ⟨true, T.ex_InvalidAmount_InvalidAmount, fun _ a2 ha2 => ?_, nofun⟩⟩⟩⟩⟩
      · simp only [List.mem_cons, List.not_mem_nil, or_false] at hy
        rcases hy with rfl | rfl
        · exact .amt (ha.up (AT.Same.up gp))
        · exact (two gp).1
      · obtain rfl : j = 0 := by omega
        cases hy
        exact ⟨x, .obj (ha.up (AT.Same.up gp))⟩
      · exact ⟨_, rfl, rfl, rfl, d, _, v, rfl, hx, rfl, (by show 2 ≤ sizeLine; decide), fun q hq => k q _ (((AT.Same.up gp).trans s2).trans (AT.Same.up hq)) (none_of ((AT.Same.up gp).trans s2) hq) upd_same⟩
    · refine ⟨_, rfl, rfl, _, rfl, ?_⟩
      rw [e0]
      refine iteF ⟨_, rfl, rfl, _, rfl, ?_⟩
      rw [e1]
      refine iteT ⟨_, rfl, a, dx, _, rfl, h1, rfl, _, rfl, a, v, x, rfl, ha, b3, hv.any, .inr (.inl ⟨hv, fun H2 d s2 hd2 hx => ⟨true, T.ex_InvalidAmount_InvalidAmount, fun _ a2 ha2 => ?_, nofun⟩⟩)⟩
      exact ⟨_, rfl, rfl, rfl, d, _, v, rfl, hx, rfl, (by show 2 ≤ sizeLine; decide), fun q hq => k q _ (s2.trans (AT.Same.up hq)) (none_of s2 hq) upd_same⟩
/-- _law_made: what is refused -/
def spMadeI (K : PySem.W.Frag) : Sp := fun vs H Q _ => ∃ v1 v2 r, vs = [v1, v2] ∧ AnyV K H v1 ∧ AnyV K H v2 ∧ ((wholeV v1 = false ∧ r = v1) ∨ (wholeV v1 = true ∧ badB v2 = true ∧ r = v2)) ∧
  ∀ q H', Same H H' → H q = none → H' q = some (.lst [.str "integer", r]) → Q (.ref q) H'
theorem sc_w_made : FnScope ["_law_top", "_law_bottom", "e"] ["_law_top", "_law_bottom"] (defScope s_w_made) := ⟨rfl, rfl, rfl, by decide +kernel, rfl, by decide +kernel, by decide +kernel⟩
theorem ok_w_made (T : Tx K mg base) : Ok P w K mg base 6 (d_w_made.loc K) ["_law_top", "_law_bottom"] (spMadeI K) := by
  refine mk_ok (k := 5) T.f_w_made sc_w_made (fun _ _ _ _ _ _ us hl => match us, hl with | [_, _], _ => rfl) (fun vs H Q E h => ?_) (fun cdv A outer s H vs Q E hr h => ?_)
  · obtain ⟨v1, v2, r, rfl, _⟩ := h
    rfl
  · obtain ⟨v1, v2, r, rfl, hv1, hv2, hc, k⟩ := h
    refine ⟨_, (pss_cons (ps_try_mas (tb := _) rfl rfl takes0 (fun W pn xe tk _ => (pss_one (ps_ret (pe_lst (pa_cons pe_str (pa_cons (ok_makeS T.mkr_Amount (ok_Amount_init_ T) (hr.mono (by decide)) rfl T.g_Amount tk (pa_cons (pv 0) (pa_cons (pv 1) pa_nil))) pa_nil)))))) (.cons sc_w_made.nd (i := 2) rfl rfl ⟨rfl, by decide, .inl T.g_InvalidInteger⟩ (fun a oe cls d pn hz hf => (pss_one (ps_ret (pe_lst (pa_cons pe_str (pa_cons (pe_xf T.xc_InvalidInteger.xf T.xc_InvalidInteger.no hz hf (pv 2)) pa_nil)))))) .nil)) pss_nil), ?_⟩
    refine ⟨_, rfl, _, rfl, fun x dx hx hdx hne => ⟨x, dx, _, _, rfl, upd_same, ?_, ?_, ?_⟩⟩
    · exact hv1.up (AT.Same.new (AT.Same.up hdx) hx)
    · exact hv2.up (AT.Same.new (AT.Same.up hdx) hx)
    · have sN : Same H (upd (upd H dx (.own x)) x (.ins (cA K) dx [])) := AT.Same.new (AT.Same.up hdx) hx
      have key : ∀ (E2 : XK), (∀ H2 d, Same (upd (upd H dx (.own x)) x (.ins (cA K) dx [])) H2 → (upd (upd H dx (.own x)) x (.ins (cA K) dx [])) d = none → H2 d = some (.xd [("value", r)]) → E2 (.ref (He.ga K "InvalidInteger")) (some d) H2) → Rf K "InvalidInteger" "value" r (upd (upd H dx (.own x)) x (.ins (cA K) dx [])) E2 := fun E2 z => z
      rcases hc with ⟨hw, rfl⟩ | ⟨hw, hb, rfl⟩
      · exact .inr (.inl ⟨hw, key _ fun H2 d s2 hd2 hxx => ⟨true, T.ex_InvalidInteger_InvalidInteger, fun _ a2 ha2 => ⟨_, rfl, rfl, rfl, d, _, r, rfl, hxx, rfl, (by show 2 ≤ sizeLine; decide), fun q hq => k q _ ((sN.trans s2).trans (AT.Same.up hq)) (none_of (sN.trans s2) hq) upd_same⟩, nofun⟩⟩)
      · exact .inr (.inr ⟨hw, hb, key _ fun H2 d s2 hd2 hxx => ⟨true, T.ex_InvalidInteger_InvalidInteger, fun _ a2 ha2 => ⟨_, rfl, rfl, rfl, d, _, r, rfl, hxx, rfl, (by show 2 ≤ sizeLine; decide), fun q hq => k q _ ((sN.trans s2).trans (AT.Same.up hq)) (none_of (sN.trans s2) hq) upd_same⟩, nofun⟩⟩)
end
end K02

set_option maxHeartbeats 8000000
namespace K02
open PySem PySem.Spec PyProof.Rows L2 AT
def QEq (K : PySem.W.Frag) : Addr → Addr → Hp → Bool → Prop := fun p q H b => ∃ x y, IsQ K H p x ∧ IsQ K H q y ∧ b = decide (x = y)
def CPA (K : PySem.W.Frag) : Cmp := fun x y H b => CPair x y H b ∨ CIns (cA K) (QEq K) x y H b
def CSm (K : PySem.W.Frag) : Cmp := fun x y H b => CFlS x y H b ∨ (CLst CPair x y H b ∨ (CTuH CPair x y H b ∨ CIns (cA K) (QEq K) x y H b))
/-- what is no amount -/
inductive Th7 (H : Hp) : V → PyData → String → Prop
  | non : Th7 H .non .none "NoneType"
  | tru : Th7 H (.bl true) (.bool true) "bool"
  | s1 : Th7 H (.str "1") (.str "1") "str"
  | one {a : Addr} : H a = some (.lst [.int 1]) → Th7 H (.ref a) (.list [.int 1]) "list"
  | two {a : Addr} : H a = some (.tup [.int 1, .int 2]) → Th7 H (.ref a) (.tuple [.int 1, .int 2]) "tuple"
  | emp {a : Addr} : H a = some (.dK []) → Th7 H (.ref a) (.dict []) "dict"
  | half : Th7 H (.str "1/2") (.str "1/2") "str"
def ShOk (d : PyData) : Prop := d.showable = true ∧ d.depth ≤ 50 ∧ d.shown.length ≤ sizeLine
section
variable {K : PySem.W.Frag} {H H' : Hp} {v : V} {d : PyData} {Ty : String}
theorem Th7.up (h : Th7 H v d Ty) (s : Same H H') : Th7 H' v d Ty := by
  cases h with
  | non => exact .non
  | tru => exact .tru
  | s1 => exact .s1
  | one e => exact .one (s _ _ e)
  | two e => exact .two (s _ _ e)
  | emp e => exact .emp (s _ _ e)
  | half => exact .half
theorem Th7.flat (h : Th7 H v d Ty) : FlatV H v Ty := by
  cases h with
  | non => exact .non
  | tru => exact .bl _
  | s1 => exact .str _
  | one e => exact .lst e
  | two e => exact .tup e
  | emp e => exact .dct e
  | half => exact .str _
theorem Th7.wh (h : Th7 H v d Ty) : wholeV v = false := by cases h <;> rfl
theorem Th7.dd (h : Th7 H v d Ty) : Dd K H v d := by
  cases h with
  | non => exact .non
  | tru => exact .bl _
  | s1 => exact .str _
  | one e => exact .lst (SqL.of e) (.cons (.int _) .nil)
  | two e => exact .tup (SqT.of e) (.cons (.int _) (.cons (.int _) .nil))
  | emp e => exact .emp e
  | half => exact .str _
theorem Th7.sh (h : Th7 H v d Ty) : ShOk (.list [.str "amount", d]) := by cases h <;> exact ⟨by decide +kernel, by decide +kernel, by decide +kernel⟩
end
/-- what is no integer -/
inductive Th6 (K : PySem.W.Frag) (a : Addr) (H : Hp) : V → Prop
  | non : Th6 K a H .non
  | fal : Th6 K a H (.bl false)
  | s3 : Th6 K a H (.str "3")
  | one {b : Addr} : H b = some (.lst [.int 3]) → Th6 K a H (.ref b)
  | tup {b : Addr} : H b = some (.tup [.int 1]) → Th6 K a H (.ref b)
  | amt {x : Rat} : IsQ K H a x → Th6 K a H (.ref a)
section
variable {K : PySem.W.Frag} {a : Addr} {H H' : Hp} {v : V}
theorem Th6.up (h : Th6 K a H v) (s : Same H H') : Th6 K a H' v := by
  cases h with
  | non => exact .non
  | fal => exact .fal
  | s3 => exact .s3
  | one e => exact .one (s _ _ e)
  | tup e => exact .tup (s _ _ e)
  | amt e => exact .amt (e.up s)
theorem Th6.any (h : Th6 K a H v) : AnyV K H v := by
  cases h with
  | non => exact .non
  | fal => exact .bl _
  | s3 => exact .str _
  | one e => exact .lst e
  | tup e => exact .tup e
  | amt e => exact .amt e
theorem Th6.wh (h : Th6 K a H v) : wholeV v = false := by cases h <;> rfl
theorem Th6.bad (h : Th6 K a H v) : badB v = true := by cases h <;> rfl
theorem Th6.same (h : Th6 K a H v) : CSm K v v H true := by
  have pr : ∀ (i : Int) (n : Nat) x y, [V.int i][n]? = some x → [V.int i][n]? = some y → CPair x y H true := fun i n x y h1 h2 => by
    cases n with
    | zero =>
      cases h1
      cases h2
      exact .inr ⟨rfl, rfl, by simp [eqV]⟩
    | succ n => cases h1
  cases h with
  | non => exact .inl ⟨rfl, rfl, rfl⟩
  | fal => exact .inl ⟨rfl, rfl, rfl⟩
  | s3 => exact .inl ⟨rfl, rfl, rfl⟩
  | one e => exact .inr (.inl ⟨_, _, _, _, rfl, rfl, e, e, .inr ⟨fun _ => true, rfl, fun n x y h1 h2 => pr 3 n x y h1 h2, rfl⟩⟩)
  | tup e => exact .inr (.inr (.inl ⟨_, _, _, _, fun _ => true, rfl, rfl, e, e, fun n x y h1 h2 => pr 1 n x y h1 h2, rfl⟩))
  | amt e =>
    obtain ⟨dx, e1⟩ := id e
    exact .inr (.inr (.inr ⟨_, _, _, _, _, _, rfl, rfl, e1, e1, _, _, e, e, by simp⟩))
end
section
variable {P : Program} {w : World} {K : PySem.W.Frag} {mg : Str → Option Value} {base : Heap}
theorem rcB_amt {X : Cx} (T : Tx X.K X.mg X.base) : RcB X 2 (CIns (cA X.K) (QEq X.K)) := by
  refine rcB_ins T.eq_Amount (ok_Amount_eq_ T) (E := E0) passL (fun p q H b h => ?_)
  obtain ⟨x, y, h1, h2, rfl⟩ := h
  exact ⟨p, q, x, y, rfl, h1, h2, rfl, rfl⟩
theorem eqB_amt {X : Cx} (T : Tx X.K X.mg X.base) : EqB X 2 (CIns (cA X.K) (QEq X.K)) := by
  refine eqB_ins T.eq_Amount (ok_Amount_eq_ T) (E := E0) passL (fun p q H b h => ?_) fun p H b h => ?_
  · obtain ⟨x, y, h1, h2, rfl⟩ := h
    exact ⟨p, q, x, y, rfl, h1, h2, rfl, rfl⟩
  · obtain ⟨x, y, h1, h2, rfl⟩ := h
    exact decide_eq_true (h1.inj h2)
theorem eqB_pa {X : Cx} (T : Tx X.K X.mg X.base) : EqB X 2 (CPA X.K) := EqB.or (eqB_pair.mono (by decide)) (eqB_amt T)
theorem rcB_sm {X : Cx} (T : Tx X.K X.mg X.base) : RcB X 2 (CSm X.K) := RcB.or (rcB_fls.mono (by decide)) (RcB.or ((rcB_lst eqB_pair).mono (by decide)) (RcB.or ((rcB_tuH eqB_pair).mono (by decide)) (rcB_amt T)))
/-- Amount(i), an argument -/
theorem mk_int0 {E : XK} {σ : L2.St} {H : Hp} {tr : TA} {Q : List V → Hp → Prop} (i : Int) (h : ∀ z H1, H z = none → Same H H1 → IsQ K H1 z (i : Rat) → tr σ H1 fun xs H2 => Q (.ref z :: xs) H2) : tCons (tMake (He.ga K "Amount") (spAmt K) [.int 1] E (tCons (tC (.int i)) tNil)) tr σ H Q :=
  fun z dz hz hdz _ => ⟨z, dz, _, _, rfl, upd_same, .int _, .int _, .inl ⟨i, 1, rfl, rfl, by decide, by decide +kernel, rfl, h z _ hz (made_same hz hdz) ⟨dz, by rw [upd_same, q_int]⟩⟩⟩
theorem lst_int0 {E : XK} {σ : L2.St} {H : Hp} {Q : VK} {x : V} (i : Int) (h : ∀ z H1, H z = none → Same H H1 → IsQ K H1 z (i : Rat) → ∀ p, H1 p = none → Q (.ref p) (upd H1 p (.lst [x, .ref z]))) : tLst (tCons (tC x) (tCons (tMake (He.ga K "Amount") (spAmt K) [.int 1] E (tCons (tC (.int i)) tNil)) tNil)) σ H Q :=
  mk_int0 (tr := tNil) (Q := fun xs H2 => (x :: xs).length ≤ sizeLine ∧ ∀ p, H2 p = none → Q (.ref p) (upd H2 p (.lst (x :: xs)))) i fun z H1 gz s qz => ⟨(by show 2 ≤ sizeLine; decide), h z H1 gz s qz⟩
def DueI (H : Hp) (C : Addr) (v r : V) : Prop := ∃ q, v = .ref q ∧ q ≠ C ∧ H q = some (.lst [.str "integer", r])
def spRefused (K : PySem.W.Frag) : Sp := fun vs H Q _ => ∃ (a : Addr) (x : Rat), vs = [.ref a] ∧ IsQ K H a x ∧ Bits 128 x ∧ ∀ H', Same H H' → Q (.bl true) H'
theorem sc_w_refused : FnScope ["_law_one", "_law_thing", "_law_at", "_law_found", "_law_row", "_law_pairs", "_law_due", "_law_top", "_law_bottom"] ["_law_one"] (defScope s_w_refused) := ⟨rfl, rfl, rfl, by decide +kernel, rfl, by decide +kernel, by decide +kernel⟩
theorem ok_w_refused (T : Tx K mg base) : OkG P w K mg base 13 (d_w_refused.loc K) ["_law_one"] (spRefused K) := by
  refine mk_okG (k := 12) T.f_w_refused sc_w_refused (fun _ _ _ _ _ _ us hl => match us, hl with | [_], _ => rfl) (fun vs H Q E h => ?_) (fun cdv A outer s H vs Q E hgd hr h => ?_)
  · obtain ⟨a, x, rfl, _⟩ := h
    rfl
  · obtain ⟨a, x, rfl, ha, bx, k⟩ := h
    refine ⟨_, (pss_cons (ps_for (passes_of rfl) rfl (pi_list (pe_lst (pa_cons pe_non (pa_cons pe_bl (pa_cons pe_str (pa_cons (pe_lst (pa_cons pe_int pa_nil)) (pa_cons (pe_tup (pa_cons pe_int (pa_cons pe_int pa_nil))) (pa_cons pe_dnewK (pa_cons pe_str pa_nil))))))))) (pg_name (i := 1) sc_w_refused.nd rfl (Or.inr rfl)) (pss_cons (ps_if (pt_cmpR (show OpR _ _ (rNeE K) from op_neE hr.units) (pe_lc (own := [("_law_at", 2)]) (g := (gName 2)) (by rfl) sc_w_refused.nd (pi_range1 (by rfl) T.b_range (pa_cons pe_int pa_nil)) (blkOk_by (own := [("_law_at", 2)]) (N := ["_law_one", "_law_thing", "_law_at", "_law_found", "_law_row", "_law_pairs", "_law_due", "_law_top", "_law_bottom"]) (sc := defScope s_w_refused) (by decide +kernel)) (fun _ _ _ _ _ => (pg_name (i := 2) sc_w_refused.nd rfl (Or.inl rfl))) (fun _ _ _ _ _ => (pts_one (pt_cmpR op_ne (pe_callB (show CallR _ (.builtin "repr") (rRepr K) from call_repr hgd hr T.sys) (by rfl) T.b_repr (by decide +kernel) (pa_cons (ok_call (ok_w_told T) (hr.mono (by decide)) rfl T.g_w_told passL (pa_cons (pv 2) (pa_cons (pv 0) (pa_cons (pv 1) pa_nil)))) pa_nil)) (pe_callB (show CallR _ (.builtin "repr") (rRepr K) from call_repr hgd hr T.sys) (by rfl) T.b_repr (by decide +kernel) (pa_cons (pe_lst (pa_cons pe_str (pa_cons (pv 1) pa_nil))) pa_nil)) (nomark _)))) (fun _ _ _ _ _ => (pv 2))) (pe_lst pa_nil) (nomark _)) (pss_one (ps_ret pe_bl)) pss_nil)
      (pss_one (ps_if (PW.pt (pw_or (pt_cmpR op_notB (ok_call (ok_is_amount T) (hr.mono (by decide)) rfl T.g_is_amount passL (pa_cons (pv 1) pa_nil)) pe_bl (nomark _)) (pw_or1 (pt_cmpR (op_eqF T.eq_Amount (kits_amt T) (okN_Amount_eq_ T) (hr.mono (by decide)) passL) (pv 0) (pv 1) (nomark _))))) (pss_one (ps_ret pe_bl)) pss_nil))))
      (pss_cons (ps_if (pt_cmpR (op_neB (eqB_pa T) (hr.mono (by decide))) (ok_call (ok_w_told T) (hr.mono (by decide)) rfl T.g_w_told passL (pa_cons pe_int (pa_cons (pv 0) (pa_cons (ok_makeD T.mkr_Amount (okd_Amount_init_ T) (hr.mono (by decide)) rfl T.g_Amount (passE rfl rfl rfl rfl) (pa_cons pe_int pa_nil)) pa_nil)))) (pe_lst (pa_cons pe_str (pa_cons (ok_makeD T.mkr_Amount (okd_Amount_init_ T) (hr.mono (by decide)) rfl T.g_Amount (passE rfl rfl rfl rfl) (pa_cons pe_int pa_nil)) pa_nil))) (nomark _)) (pss_one (ps_ret pe_bl)) pss_nil)
      (pss_cons (ps_if (PW.pt (pw_or (pt_cmpR (op_neD hr.units) (ok_call (ok_w_told T) (hr.mono (by decide)) rfl T.g_w_told passL (pa_cons pe_int (pa_cons (pv 0) (pa_cons pe_int pa_nil)))) (pe_lst (pa_cons pe_str (pa_cons pe_int pa_nil))) (nomark _)) (pw_or (pt_cmpR op_notB (ok_call (ok_is_amount T) (hr.mono (by decide)) rfl T.g_is_amount passL (pa_cons (pv 0) pa_nil)) pe_bl (nomark _)) (pw_or1 (pt_cmpR op_notB (ok_call (ok_is_amount T) (hr.mono (by decide)) rfl T.g_is_amount passL (pa_cons pe_int pa_nil)) pe_bl (nomark _)))))) (pss_one (ps_ret pe_bl)) pss_nil)
      (pss_cons (ps_for (passes_of rfl) rfl (pi_list (pe_lst (pa_cons pe_non (pa_cons pe_bl (pa_cons pe_str (pa_cons (pe_lst (pa_cons pe_int pa_nil)) (pa_cons (pe_tup (pa_cons pe_int pa_nil)) (pa_cons (pv 0) pa_nil)))))))) (pg_name (i := 1) sc_w_refused.nd rfl (Or.inr rfl)) (pss_cons (ps_set (i := 3) sc_w_refused.nd rfl (Or.inl rfl) (pe_lst (pa_cons (ok_call (ok_w_made T) (hr.mono (by decide)) rfl T.g_w_made passL (pa_cons (pv 1) (pa_cons (pv 1) pa_nil))) (pa_cons (ok_call (ok_w_made T) (hr.mono (by decide)) rfl T.g_w_made passL (pa_cons pe_int (pa_cons (pv 1) pa_nil))) pa_nil))))
      (pss_one (ps_if (PW.pt (pw_or (pt_cmpR (op_neD hr.units) (pe_lc (own := [("_law_row", 4)]) (g := (gName 4)) (tt := tYes) (by rfl) sc_w_refused.nd (pi_list (pv 3)) (blkOk_by (own := [("_law_row", 4)]) (N := ["_law_one", "_law_thing", "_law_at", "_law_found", "_law_row", "_law_pairs", "_law_due", "_law_top", "_law_bottom"]) (sc := defScope s_w_refused) (by decide +kernel)) (fun _ _ _ _ _ => (pg_name (i := 4) sc_w_refused.nd rfl (Or.inl rfl))) (fun _ _ _ _ _ => pts_nil) (fun _ _ _ _ _ => (pe_ix (show IxR _ (rIxL K) from ix_list) (pv 4) pe_int (fun _ _ => rfl)))) (pe_lst (pa_cons pe_str (pa_cons pe_str pa_nil))) (nomark _)) (pw_or1 (pt_cmpR (op_neD hr.units) (pe_lc (own := [("_law_row", 4)]) (g := (gName 4)) (tt := tYes) (by rfl) sc_w_refused.nd (pi_list (pv 3)) (blkOk_by (own := [("_law_row", 4)]) (N := ["_law_one", "_law_thing", "_law_at", "_law_found", "_law_row", "_law_pairs", "_law_due", "_law_top", "_law_bottom"]) (sc := defScope s_w_refused) (by decide +kernel)) (fun _ _ _ _ _ => (pg_name (i := 4) sc_w_refused.nd rfl (Or.inl rfl))) (fun _ _ _ _ _ => pts_nil) (fun _ _ _ _ _ => (pe_cmpR (show OpR _ _ (rEqB (CSm K)) from op_eqB (rcB_sm T) (hr.mono (by decide))) (pe_ix (show IxR _ (rIxL K) from ix_list) (pv 4) pe_int (fun _ _ => rfl)) (pv 1) (nomark _)))) (pe_lst (pa_cons pe_bl (pa_cons pe_bl pa_nil))) (nomark _))))) (pss_one (ps_ret pe_bl)) pss_nil))))
      (pss_cons (ps_set (i := 5) sc_w_refused.nd rfl (Or.inl rfl) (pe_lst (pa_cons (pe_tup (pa_cons pe_non (pa_cons pe_int pa_nil))) (pa_cons (pe_tup (pa_cons pe_str (pa_cons pe_bl pa_nil))) (pa_cons (pe_tup (pa_cons pe_int (pa_cons pe_non pa_nil))) (pa_cons (pe_tup (pa_cons pe_bl (pa_cons pe_int pa_nil))) pa_nil))))))
      (pss_cons (ps_set (i := 6) sc_w_refused.nd rfl (Or.inl rfl) (pe_lst (pa_cons (pe_lst (pa_cons pe_str (pa_cons pe_non pa_nil))) (pa_cons (pe_lst (pa_cons pe_str (pa_cons pe_str pa_nil))) (pa_cons (pe_lst (pa_cons pe_str (pa_cons pe_non pa_nil))) (pa_cons (pe_lst (pa_cons pe_str (pa_cons pe_bl pa_nil))) pa_nil))))))
      (pss_cons (ps_if (pt_cmpR op_ne (pe_callB (call_repr hgd hr T.sys) (by rfl) T.b_repr (by decide +kernel) (pa_cons (pe_lc (own := [("_law_top", 7), ("_law_bottom", 8)]) (g := (gTup K 2 (gCons (gName 7) (gCons (gName 8) gNil)))) (tt := tYes) (by rfl) sc_w_refused.nd (pi_list (pv 5)) (blkOk_by (own := [("_law_top", 7), ("_law_bottom", 8)]) (N := ["_law_one", "_law_thing", "_law_at", "_law_found", "_law_row", "_law_pairs", "_law_due", "_law_top", "_law_bottom"]) (sc := defScope s_w_refused) (by decide +kernel)) (fun _ _ _ _ _ => (pg_tup rfl (pgs_cons (pg_name (i := 7) sc_w_refused.nd rfl (Or.inl rfl)) (pgs_cons (pg_name (i := 8) sc_w_refused.nd rfl (Or.inl rfl)) pgs_nil)))) (fun _ _ _ _ _ => pts_nil) (fun _ _ _ _ _ => (ok_call (ok_w_made T) (hr.mono (by decide)) rfl T.g_w_made passL (pa_cons (pv 7) (pa_cons (pv 8) pa_nil))))) pa_nil)) (pe_callB (call_repr hgd hr T.sys) (by rfl) T.b_repr (by decide +kernel) (pa_cons (pv 6) pa_nil)) (nomark _)) (pss_one (ps_ret pe_bl)) pss_nil)
      (pss_one (ps_ret (pe_cmpR op_eq (pe_callB (call_repr hgd hr T.sys) (by rfl) T.b_repr (by decide +kernel) (pa_cons (ok_call (ok_w_made T) (hr.mono (by decide)) rfl T.g_w_made passL (pa_cons pe_int (pa_cons pe_int pa_nil))) pa_nil)) (pe_callB (call_repr hgd hr T.sys) (by rfl) T.b_repr (by decide +kernel) (pa_cons (pe_lst (pa_cons pe_str (pa_cons pe_int pa_nil))) pa_nil)) (nomark _))))))))))), ?_⟩
    have hsz : sizeLine = 16777216 := sizeLine_eq
    refine ⟨(by show 1 ≤ sizeLine; decide), fun a1 g1 => ⟨(by show 2 ≤ sizeLine; decide), fun a2 g2 a3 g3 => ⟨(by show 7 ≤ sizeLine; decide), fun L gL => ?_⟩⟩⟩
    have v0 : ∃ H0 : Hp, H0 = upd (upd (upd (upd H a1 (.lst [.int 1])) a2 (.tup [.int 1, .int 2])) a3 (.dK [])) L (.lst [.non, .bl true, .str "1", .ref a1, .ref a2, .ref a3, .str "1/2"]) := ⟨_, rfl⟩
    obtain ⟨H0, e0⟩ := v0
    have s0 : Same H H0 := by rw [e0]; exact (((AT.Same.up g1).trans (AT.Same.up g2)).trans (AT.Same.up g3)).trans (AT.Same.up gL)
    have w1 : H0 a1 = some (.lst [.int 1]) := by rw [e0]; exact AT.Same.up gL _ _ (AT.Same.up g3 _ _ (AT.Same.up g2 _ _ upd_same))
    have w2 : H0 a2 = some (.tup [.int 1, .int 2]) := by rw [e0]; exact AT.Same.up gL _ _ (AT.Same.up g3 _ _ upd_same)
    have w3 : H0 a3 = some (.dK []) := by rw [e0]; exact AT.Same.up gL _ _ upd_same
    have wL : H0 L = some (.lst [.non, .bl true, .str "1", .ref a1, .ref a2, .ref a3, .str "1/2"]) := by rw [e0]; exact upd_same
    rw [← e0]
    clear e0 gL g3 g2
    refine ⟨L, rfl, ⟨_, SqL.of wL⟩, for_list (xs := [.non, .bl true, .str "1", .ref a1, .ref a2, .ref a3, .str "1/2"]) (fun i σ' H' => (∃ o1, σ' = ([some (.ref a), o1, none, none, none, none, none, none, none] : L2.St)) ∧ Same H0 H') ⟨⟨_, rfl⟩, Same.refl _⟩ (fun i σ' H' _ hP => SqL.of (hP.2 _ _ wL)) (fun i y σ' H' hxi hP => ?_) (fun σ' H' hP => ?_)⟩
    · obtain ⟨⟨o1, rfl⟩, sm⟩ := hP
      obtain ⟨d, Ty, th⟩ : ∃ d Ty, Th7 H' y d Ty := by
        have hm := List.mem_of_getElem? hxi
        simp only [List.mem_cons, List.not_mem_nil, or_false] at hm
        rcases hm with rfl | rfl | rfl | rfl | rfl | rfl | rfl
        · exact ⟨_, _, .non⟩
        · exact ⟨_, _, .tru⟩
        · exact ⟨_, _, .s1⟩
        · exact ⟨_, _, .one (sm _ _ w1)⟩
        · exact ⟨_, _, .two (sm _ _ w2)⟩
        · exact ⟨_, _, .emp (sm _ _ w3)⟩
        · exact ⟨_, _, .half⟩
      have ha' := ha.up (s0.trans sm)
      have sh := th.sh
      refine ⟨8, rfl, by decide, by decide, fun C gC => ?_⟩
      refine lc_range (lo := 0) (n := 8) (fun j Hj => Same H' Hj ∧ Hj C = some (.lst [])) ⟨AT.Same.up gC, upd_same⟩ (fun j Hj hj hP => ?_) (fun Hj hP => ?_)
      · obtain ⟨sj, hC⟩ := hP
        have thj := th.up sj
        refine ⟨rfl, ?_⟩
        refine ⟨_, rfl, _, rfl, _, rfl, j, a, x, y, (by rw [Int.zero_add]; rfl), hj, ha'.up sj, bx, .inl ⟨Ty, thj.flat, thj.wh⟩, fun q1 H1 s2 gq1 hq1 => ?_⟩
        have th1 := thj.up s2
        refine ⟨_, .list [.str "amount", d], rfl, .lst (SqL.of hq1) (.cons (.str _) (.cons th1.dd .nil)), sh.1, sh.2.1, sh.2.2, ?_⟩
        refine ⟨_, rfl, (by show 2 ≤ sizeLine; decide), fun q2 gq2 => ?_⟩
        have s3 := AT.Same.up (o := .lst [.str "amount", y]) gq2
        have th2 := th1.up s3
        refine ⟨_, .list [.str "amount", d], rfl, .lst (SqL.of upd_same) (.cons (.str _) (.cons th2.dd .nil)), sh.1, sh.2.1, sh.2.2, rfl, _, rfl, ?_⟩
        rw [decide_eq_true rfl]
        exact iteF ⟨sj.trans (s2.trans s3), s3 _ _ (s2 _ _ hC)⟩
      · obtain ⟨sj, hC⟩ := hP
        refine ⟨(by show 0 ≤ sizeLine; decide), fun q gq => ⟨[], ⟨C, q, rfl, rfl, SqL.of (AT.Same.up gq _ _ hC), SqL.of upd_same⟩, _, rfl, iteF ?_⟩⟩
        have sq := AT.Same.up (o := .lst []) gq
        have th2 := th.up (sj.trans sq)
        have ha2 := ha'.up (sj.trans sq)
        obtain ⟨dx2, h2⟩ := id ha2
        have any2 := flat_any (K := K) th2.flat
        have no2 := flat_isA (K := K) th2.flat th2.wh
        refine ⟨_, rfl, y, rfl, any2, fun z => absurd z no2, fun _ => ⟨_, _, rfl, rfl, _, rfl, iteF ?_⟩⟩
        refine ⟨_, rfl, _, rfl, a, dx2, _, Ty, rfl, h2, th2.flat, ⟨a, x, y, rfl, ha2, any2, flat_no th2.flat, rfl⟩, _, rfl, iteF ?_⟩
        exact ⟨⟨_, rfl⟩, sm.trans (sj.trans sq)⟩
    · obtain ⟨⟨o1, rfl⟩, sm⟩ := hP
      have sH := s0.trans sm
      clear wL w1 w2 w3 s0 sm
      -- told(1, one, Amount(0))
      refine ⟨_, rfl, mk_int0 0 fun z H1 gz sM qz => ?_⟩
      have s01 := sH.trans sM
      refine ⟨1, a, x, .ref z, rfl, by decide, ha.up s01, bx, .inr ⟨rfl, .obj qz⟩, fun q1 H2 s2 gq1 hq1 => ?_⟩
      refine lst_int0 0 fun z2 H3 gz2 sM2 qz2 q2 gq2 => ?_
      have s4 := AT.Same.up (o := .lst [.str "amount", .ref z2]) gq2
      have h2 : upd H3 q2 (.lst [.str "amount", .ref z2]) q2 = some (.lst [.str "amount", .ref z2]) := upd_same
      generalize upd H3 q2 (.lst [.str "amount", .ref z2]) = H4 at s4 h2 ⊢
      have s14 := s2.trans (sM2.trans s4)
      refine ⟨q1, q2, _, _, rfl, rfl, (sM2.trans s4) _ _ hq1, h2, rfl, fun i y1 y2 e1 e2 => ?_, _, rfl, iteF ?_⟩
      · match i, e1, e2 with
        | 0, e1, e2 =>
          cases e1
          cases e2
          exact .inl (.inr ⟨rfl, rfl, by simp [eqV]⟩)
        | 1, e1, e2 =>
          cases e1
          cases e2
          obtain ⟨d1, i1⟩ := qz.up s14
          obtain ⟨d2, i2⟩ := qz2.up s4
          exact .inr ⟨_, _, _, _, _, _, rfl, rfl, i1, i2, _, _, ⟨d1, i1⟩, ⟨d2, i2⟩, by simp⟩
        | n + 2, e1, e2 => cases e1
      have s04 := s01.trans s14
      clear hq1 h2 gq1 gq2
      -- told(1, one, 0)
      have z0 : ∀ {H5 : Hp}, Qv K H5 (.int 0) 0 := fun {H5} => Qv.int 0
      refine ⟨_, rfl, 1, a, x, .int 0, rfl, by decide, ha.up s04, bx, .inr ⟨rfl, z0⟩, fun q3 H5 s5 gq3 hq3 => ?_⟩
      refine ⟨(by show 2 ≤ sizeLine; decide), fun q4 gq4 => ?_⟩
      have s6 := AT.Same.up (o := .lst [.str "amount", .int 0]) gq4
      have h4 : upd H5 q4 (.lst [.str "amount", .int 0]) q4 = some (.lst [.str "amount", .int 0]) := upd_same
      generalize upd H5 q4 (.lst [.str "amount", .int 0]) = H6 at s6 h4 ⊢
      refine ⟨.list [.str "amount", .int 0], .list [.str "amount", .int 0], .lst (SqL.of (s6 _ _ hq3)) (.cons (.str _) (.cons (.int _) .nil)), .lst (SqL.of h4) (.cons (.str _) (.cons (.int _) .nil)), by decide +kernel, by decide +kernel, ?_⟩
      rw [show PyData.eqv (.list [.str "amount", .int 0]) (.list [.str "amount", .int 0]) = true from by decide +kernel]
      have s06 := s04.trans (s5.trans s6)
      have ha6 := ha.up s06
      clear hq3 h4 gq3 gq4
      refine ⟨_, rfl, iteF ⟨_, rfl, .ref a, rfl, .amt ha6, fun _ => ⟨_, _, rfl, rfl, _, rfl, iteF ?_⟩, fun z => absurd ⟨_, .obj ha6⟩ z⟩⟩
      refine ⟨.int 0, rfl, .int 0, fun _ => ⟨_, _, rfl, rfl, _, rfl, iteF ?_⟩, fun z => absurd ⟨_, z0⟩ z⟩
      -- what is no integer
      refine ⟨(by show 1 ≤ sizeLine; decide), fun b1 gb1 => ⟨(by show 1 ≤ sizeLine; decide), fun b2 gb2 => ⟨_, rfl, (by show 6 ≤ sizeLine; decide), fun LL gLL => ?_⟩⟩⟩
      have v0 : ∃ H0 : Hp, H0 = upd (upd (upd H6 b1 (.lst [.int 3])) b2 (.tup [.int 1])) LL (.lst [.non, .bl false, .str "3", .ref b1, .ref b2, .ref a]) := ⟨_, rfl⟩
      obtain ⟨H7, e7⟩ := v0
      have s7 : Same H6 H7 := by rw [e7]; exact ((AT.Same.up gb1).trans (AT.Same.up gb2)).trans (AT.Same.up gLL)
      have w1 : H7 b1 = some (.lst [.int 3]) := by rw [e7]; exact AT.Same.up gLL _ _ (AT.Same.up gb2 _ _ upd_same)
      have w2 : H7 b2 = some (.tup [.int 1]) := by rw [e7]; exact AT.Same.up gLL _ _ upd_same
      have wL : H7 LL = some (.lst [.non, .bl false, .str "3", .ref b1, .ref b2, .ref a]) := by rw [e7]; exact upd_same
      rw [← e7]
      clear e7 gLL gb2
      have s07 := s06.trans s7
      refine ⟨LL, rfl, ⟨_, SqL.of wL⟩, for_list (xs := [.non, .bl false, .str "3", .ref b1, .ref b2, .ref a]) (fun i σ' H' => (∃ o1 o3, σ' = ([some (.ref a), o1, none, o3, none, none, none, none, none] : L2.St)) ∧ Same H7 H') ⟨⟨_, _, rfl⟩, Same.refl _⟩ (fun i σ' H' _ hP => SqL.of (hP.2 _ _ wL)) (fun i y σ' H' hxi hP => ?_) (fun σ' H' hP => ?_)⟩
      · obtain ⟨⟨o1, o3, rfl⟩, sm⟩ := hP
        have th : Th6 K a H' y := by
          have hm := List.mem_of_getElem? hxi
          simp only [List.mem_cons, List.not_mem_nil, or_false] at hm
          rcases hm with rfl | rfl | rfl | rfl | rfl | rfl
          · exact .non
          · exact .fal
          · exact .s3
          · exact .one (sm _ _ w1)
          · exact .tup (sm _ _ w2)
          · exact .amt (ha.up (s07.trans sm))
        refine ⟨_, rfl, _, rfl, y, y, y, rfl, th.any, th.any, .inl ⟨th.wh, rfl⟩, fun q1 Ha sa gq1 hq1 => ?_⟩
        have th1 := th.up sa
        refine ⟨_, rfl, .int 3, y, y, rfl, .int 3, th1.any, .inr ⟨rfl, th1.bad, rfl⟩, fun q2 Hb sb gq2 hq2 => ?_⟩
        refine ⟨(by show 2 ≤ sizeLine; decide), fun F gF => ?_⟩
        have sF := AT.Same.up (o := .lst [.ref q1, .ref q2]) gF
        have hF : upd Hb F (.lst [.ref q1, .ref q2]) F = some (.lst [.ref q1, .ref q2]) := upd_same
        generalize upd Hb F (.lst [.ref q1, .ref q2]) = Hc at sF hF ⊢
        have w1c := (sb.trans sF) _ _ hq1
        have w2c := sF _ _ hq2
        have thc := (th1.up sb).up sF
        have rows : ∀ {n : Nat} {z : V}, ([.ref q1, .ref q2] : List V)[n]? = some z → ∃ q, z = .ref q ∧ Hc q = some (.lst [.str "integer", y]) := fun {n z} h => match n, h with
          | 0, h => by cases h; exact ⟨_, rfl, w1c⟩
          | 1, h => by cases h; exact ⟨_, rfl, w2c⟩
          | n + 2, h => by cases h
        refine ⟨_, rfl, F, rfl, ⟨_, SqL.of hF⟩, fun C gC => ?_⟩
        refine lc_list (K := K) (a := F) (xs := [.ref q1, .ref q2]) (fun j Hj => Same Hc Hj ∧ Hj C = some (.lst (List.replicate j (.str "integer")))) ⟨AT.Same.up gC, upd_same⟩ (fun j Hj _ hP => SqL.of (hP.1 _ _ hF)) (fun j z Hj hzj hP => ?_) (fun Hj hP => ?_)
        · obtain ⟨sj, hC⟩ := hP
          obtain ⟨q, rfl, hq⟩ := rows hzj
          have hj2 : j < 2 := (List.getElem?_eq_some_iff.mp hzj).1
          refine ⟨rfl, ?_⟩
          dsimp only [tYes]
          refine iteT ⟨_, rfl, q, _, 0, _, rfl, rfl, SqL.of (sj _ _ hq), rfl, _, hC, (by rw [List.length_replicate]; omega), AT.Same.new sj gC, ?_⟩
          rw [upd_same, List.replicate_succ']
        · obtain ⟨sj, hC⟩ := hP
          refine ⟨(by show 2 ≤ sizeLine; decide), fun q gq => ?_⟩
          have sq := AT.Same.up (o := .lst [.str "integer", .str "integer"]) gq
          have hq : upd Hj q (.lst [.str "integer", .str "integer"]) q = some (.lst [.str "integer", .str "integer"]) := upd_same
          generalize upd Hj q (.lst [.str "integer", .str "integer"]) = Hd at sq hq ⊢
          refine ⟨.list [.str "integer", .str "integer"], .list [.str "integer", .str "integer"], .lst (SqL.of (sq _ _ hC)) (.cons (.str _) (.cons (.str _) .nil)), .lst (SqL.of hq) (.cons (.str _) (.cons (.str _) .nil)), by decide +kernel, by decide +kernel, ?_⟩
          rw [show PyData.eqv (.list [.str "integer", .str "integer"]) (.list [.str "integer", .str "integer"]) = true from by decide +kernel]
          have sd := sj.trans sq
          refine ⟨_, rfl, iteF ⟨_, rfl, F, rfl, ⟨_, SqL.of (sd _ _ hF)⟩, fun C2 gC2 => ?_⟩⟩
          refine lc_list (K := K) (a := F) (xs := [.ref q1, .ref q2]) (fun j Hj => Same Hd Hj ∧ Hj C2 = some (.lst (List.replicate j (.bl true)))) ⟨AT.Same.up gC2, upd_same⟩ (fun j Hj _ hP => SqL.of (hP.1 _ _ (sd _ _ hF))) (fun j z Hj hzj hP => ?_) (fun Hj hP => ?_)
          · obtain ⟨sj, hC⟩ := hP
            obtain ⟨q, rfl, hq⟩ := rows hzj
            have hj2 : j < 2 := (List.getElem?_eq_some_iff.mp hzj).1
            refine ⟨rfl, ?_⟩
            dsimp only [tYes]
            refine iteT ⟨_, rfl, q, _, 1, _, rfl, rfl, SqL.of (sj _ _ (sd _ _ hq)), rfl, _, rfl, true, (thc.up (sd.trans sj)).same, _, hC, (by rw [List.length_replicate]; omega), AT.Same.new sj gC2, ?_⟩
            rw [upd_same, List.replicate_succ']
          · obtain ⟨sj, hC⟩ := hP
            refine ⟨(by show 2 ≤ sizeLine; decide), fun q gq => ?_⟩
            have sq := AT.Same.up (o := .lst [.bl true, .bl true]) gq
            have hq : upd Hj q (.lst [.bl true, .bl true]) q = some (.lst [.bl true, .bl true]) := upd_same
            generalize upd Hj q (.lst [.bl true, .bl true]) = He at sq hq ⊢
            refine ⟨.list [.bool true, .bool true], .list [.bool true, .bool true], .lst (SqL.of (sq _ _ hC)) (.cons (.bl _) (.cons (.bl _) .nil)), .lst (SqL.of hq) (.cons (.bl _) (.cons (.bl _) .nil)), by decide +kernel, by decide +kernel, ?_⟩
            rw [show PyData.eqv (.list [.bool true, .bool true]) (.list [.bool true, .bool true]) = true from by decide +kernel]
            exact ⟨_, rfl, iteF ⟨⟨_, _, rfl⟩, sm.trans (sa.trans (sb.trans (sF.trans (sd.trans (sj.trans sq)))))⟩⟩
      · obtain ⟨⟨o1, o3, rfl⟩, sm⟩ := hP
        have s08 := s07.trans sm
        clear wL w1 w2 sm s07 s7 s06 s04 s14 sH
        -- pairs
        refine ⟨(by show 2 ≤ sizeLine; decide), fun p1 gp1 => ⟨(by show 2 ≤ sizeLine; decide), fun p2 gp2 => ⟨(by show 2 ≤ sizeLine; decide), fun p3 gp3 => ⟨(by show 2 ≤ sizeLine; decide), fun p4 gp4 => ⟨(by show 4 ≤ sizeLine; decide), fun B gB => ?_⟩⟩⟩⟩⟩
        have v0 : ∃ H0 : Hp, H0 = upd (upd (upd (upd (upd H' p1 (.tup [.non, .int 0])) p2 (.tup [.str "3", .bl true])) p3 (.tup [.int 0, .non])) p4 (.tup [.bl true, .int 0])) B (.lst [.ref p1, .ref p2, .ref p3, .ref p4]) := ⟨_, rfl⟩
        obtain ⟨H8, e8⟩ := v0
        have s8 : Same H' H8 := by rw [e8]; exact ((((AT.Same.up gp1).trans (AT.Same.up gp2)).trans (AT.Same.up gp3)).trans (AT.Same.up gp4)).trans (AT.Same.up gB)
        have w1 : H8 p1 = some (.tup [.non, .int 0]) := by rw [e8]; exact AT.Same.up gB _ _ (AT.Same.up gp4 _ _ (AT.Same.up gp3 _ _ (AT.Same.up gp2 _ _ upd_same)))
        have w2 : H8 p2 = some (.tup [.str "3", .bl true]) := by rw [e8]; exact AT.Same.up gB _ _ (AT.Same.up gp4 _ _ (AT.Same.up gp3 _ _ upd_same))
        have w3 : H8 p3 = some (.tup [.int 0, .non]) := by rw [e8]; exact AT.Same.up gB _ _ (AT.Same.up gp4 _ _ upd_same)
        have w4 : H8 p4 = some (.tup [.bl true, .int 0]) := by rw [e8]; exact AT.Same.up gB _ _ upd_same
        have wB : H8 B = some (.lst [.ref p1, .ref p2, .ref p3, .ref p4]) := by rw [e8]; exact upd_same
        rw [← e8]
        clear e8 gB gp4 gp3 gp2
        refine ⟨(by show 2 ≤ sizeLine; decide), fun d1 gd1 => ⟨(by show 2 ≤ sizeLine; decide), fun d2 gd2 => ⟨(by show 2 ≤ sizeLine; decide), fun d3 gd3 => ⟨(by show 2 ≤ sizeLine; decide), fun d4 gd4 => ⟨(by show 4 ≤ sizeLine; decide), fun D gD => ?_⟩⟩⟩⟩⟩
        have v0 : ∃ H0 : Hp, H0 = upd (upd (upd (upd (upd H8 d1 (.lst [.str "integer", .non])) d2 (.lst [.str "integer", .str "3"])) d3 (.lst [.str "integer", .non])) d4 (.lst [.str "integer", .bl true])) D (.lst [.ref d1, .ref d2, .ref d3, .ref d4]) := ⟨_, rfl⟩
        obtain ⟨H9, e9⟩ := v0
        have s9 : Same H8 H9 := by rw [e9]; exact ((((AT.Same.up gd1).trans (AT.Same.up gd2)).trans (AT.Same.up gd3)).trans (AT.Same.up gd4)).trans (AT.Same.up gD)
        have y1 : H9 d1 = some (.lst [.str "integer", .non]) := by rw [e9]; exact AT.Same.up gD _ _ (AT.Same.up gd4 _ _ (AT.Same.up gd3 _ _ (AT.Same.up gd2 _ _ upd_same)))
        have y2 : H9 d2 = some (.lst [.str "integer", .str "3"]) := by rw [e9]; exact AT.Same.up gD _ _ (AT.Same.up gd4 _ _ (AT.Same.up gd3 _ _ upd_same))
        have y3 : H9 d3 = some (.lst [.str "integer", .non]) := by rw [e9]; exact AT.Same.up gD _ _ (AT.Same.up gd4 _ _ upd_same)
        have y4 : H9 d4 = some (.lst [.str "integer", .bl true]) := by rw [e9]; exact AT.Same.up gD _ _ upd_same
        have yD : H9 D = some (.lst [.ref d1, .ref d2, .ref d3, .ref d4]) := by rw [e9]; exact upd_same
        rw [← e9]
        clear e9 gD gd4 gd3 gd2
        have z1 := s9 _ _ w1
        have z2 := s9 _ _ w2
        have z3 := s9 _ _ w3
        have z4 := s9 _ _ w4
        have zB := s9 _ _ wB
        refine ⟨_, rfl, B, rfl, ⟨_, SqL.of zB⟩, fun C gC => ?_⟩
        refine lc_list (K := K) (a := B) (xs := [.ref p1, .ref p2, .ref p3, .ref p4]) (fun j Hj => Same H9 Hj ∧ ∃ acc, Hj C = some (.lst acc) ∧ Paired (DueI Hj C) acc (([.non, .str "3", .non, .bl true] : List V).take j)) ⟨AT.Same.up gC, [], upd_same, .nil⟩ (fun j Hj _ hP => SqL.of (hP.1 _ _ zB)) (fun j z Hj hzj hP => ?_) (fun Hj hP => ?_)
        · obtain ⟨sj, acc, hC, hp⟩ := hP
          have hj4 : j < 4 := (List.getElem?_eq_some_iff.mp hzj).1
          have hlu := hp.length
          rw [List.length_take] at hlu
          obtain ⟨t, u1, u2, r, rfl, ht, hr, av1, av2, hc⟩ : ∃ t u1 u2 r, z = .ref t ∧ H9 t = some (.tup [u1, u2]) ∧ ([.non, .str "3", .non, .bl true] : List V)[j]? = some r ∧ AnyV K Hj u1 ∧ AnyV K Hj u2 ∧ ((wholeV u1 = false ∧ r = u1) ∨ (wholeV u1 = true ∧ badB u2 = true ∧ r = u2)) := match j, hzj, hj4 with
            | 0, h, _ => by cases h; exact ⟨_, _, _, _, rfl, z1, rfl, .non, .int _, .inl ⟨rfl, rfl⟩⟩
            | 1, h, _ => by cases h; exact ⟨_, _, _, _, rfl, z2, rfl, .str _, .bl _, .inl ⟨rfl, rfl⟩⟩
            | 2, h, _ => by cases h; exact ⟨_, _, _, _, rfl, z3, rfl, .int _, .non, .inr ⟨rfl, rfl, rfl⟩⟩
            | 3, h, _ => by cases h; exact ⟨_, _, _, _, rfl, z4, rfl, .bl _, .int _, .inl ⟨rfl, rfl⟩⟩
            | n + 4, h, g => absurd g (by omega)
          refine ⟨t, _, rfl, SqT.of (sj _ _ ht), rfl, _, _, rfl, _, _, rfl, rfl, rfl, ?_⟩
          dsimp only [tYes]
          refine iteT ⟨_, rfl, _, rfl, u1, u2, r, rfl, av1, av2, hc, fun q Hk sk gq hq => ?_⟩
          have hCk := sk _ _ hC
          have nq : q ≠ C := fun e => by rw [e, hC] at gq; cases gq
          refine ⟨acc, hCk, by omega, AT.Same.new (sj.trans sk) gC, acc ++ [.ref q], upd_same, ?_⟩
          rw [List.take_add_one, hr]
          refine Paired.snoc (Paired.mapP hp fun _ _ z => ?_) ⟨q, rfl, nq, by rw [upd_ne nq]; exact hq⟩
          obtain ⟨q', e1, e2, e3⟩ := z
          exact ⟨q', e1, e2, by rw [upd_ne e2]; exact sk _ _ e3⟩
        · obtain ⟨sj, acc, hC, hp⟩ := hP
          have eD : PyData.list [.list [.str "integer", .none], .list [.str "integer", .str "3"], .list [.str "integer", .none], .list [.str "integer", .bool true]] = PyData.list [.list [.str "integer", .none], .list [.str "integer", .str "3"], .list [.str "integer", .none], .list [.str "integer", .bool true]] := rfl
          generalize hdd : PyData.list [.list [.str "integer", .none], .list [.str "integer", .str "3"], .list [.str "integer", .none], .list [.str "integer", .bool true]] = dd at eD
          have sh : ShOk dd := by rw [← hdd]; exact ⟨by decide +kernel, by decide +kernel, by decide +kernel⟩
          have da : Dd K Hj (.ref C) dd := by
            rw [← hdd]
            cases hp with
            | cons c1 hp => cases hp with
              | cons c2 hp => cases hp with
                | cons c3 hp => cases hp with
                  | cons c4 hp => cases hp with
                    | nil =>
                      obtain ⟨x1, rfl, _, c1⟩ := c1
                      obtain ⟨x2, rfl, _, c2⟩ := c2
                      obtain ⟨x3, rfl, _, c3⟩ := c3
                      obtain ⟨x4, rfl, _, c4⟩ := c4
                      exact .lst (SqL.of hC) (.cons (.lst (SqL.of c1) (.cons (.str _) (.cons .non .nil))) (.cons (.lst (SqL.of c2) (.cons (.str _) (.cons (.str _) .nil))) (.cons (.lst (SqL.of c3) (.cons (.str _) (.cons .non .nil))) (.cons (.lst (SqL.of c4) (.cons (.str _) (.cons (.bl _) .nil))) .nil))))
          have db : Dd K Hj (.ref D) dd := by
            rw [← hdd]
            exact .lst (SqL.of (sj _ _ yD)) (.cons (.lst (SqL.of (sj _ _ y1)) (.cons (.str _) (.cons .non .nil))) (.cons (.lst (SqL.of (sj _ _ y2)) (.cons (.str _) (.cons (.str _) .nil))) (.cons (.lst (SqL.of (sj _ _ y3)) (.cons (.str _) (.cons .non .nil))) (.cons (.lst (SqL.of (sj _ _ y4)) (.cons (.str _) (.cons (.bl _) .nil))) .nil))))
          refine ⟨_, dd, rfl, da, sh.1, sh.2.1, sh.2.2, _, rfl, _, dd, rfl, db, sh.1, sh.2.1, sh.2.2, rfl, _, rfl, ?_⟩
          rw [decide_eq_true rfl]
          refine iteF ⟨.int 3, .int 0, .int 0, rfl, .int 3, .int 0, .inr ⟨rfl, rfl, rfl⟩, fun q Hk sk gq hq => ?_⟩
          have sh2 : ShOk (.list [.str "integer", .int 0]) := ⟨by decide +kernel, by decide +kernel, by decide +kernel⟩
          refine ⟨_, .list [.str "integer", .int 0], rfl, .lst (SqL.of hq) (.cons (.str _) (.cons (.int _) .nil)), sh2.1, sh2.2.1, sh2.2.2, (by show 2 ≤ sizeLine; decide), fun q2 gq2 => ?_⟩
          refine ⟨_, .list [.str "integer", .int 0], rfl, .lst (SqL.of upd_same) (.cons (.str _) (.cons (.int _) .nil)), sh2.1, sh2.2.1, sh2.2.2, rfl, ?_⟩
          rw [decide_eq_true rfl]
          exact k _ (s08.trans (s8.trans (s9.trans (sj.trans (sk.trans (AT.Same.up gq2))))))
end
end K02

set_option maxHeartbeats 8000000
namespace K02
open PySem PySem.Spec PyProof.Rows L2 AT
/-! ### plain -/
theorem cmpQ_neg {x y : Rat} : cmpQ x y = -1 ↔ x < y := by
  unfold cmpQ
  by_cases h : x < y
  · rw [if_pos h, if_neg (by grind)]
    simp [h]
  · by_cases g : y < x
    · rw [if_pos g, if_neg h]
      simp [h]
    · rw [if_neg g, if_neg h]
      simp [h]
theorem cmpQ_pos {x y : Rat} : cmpQ x y = 1 ↔ y < x := by
  unfold cmpQ
  by_cases h : x < y
  · rw [if_pos h, if_neg (by grind)]
    have : ¬ y < x := by grind
    simp [this]
  · by_cases g : y < x
    · rw [if_pos g, if_neg h]
      simp [g]
    · rw [if_neg g, if_neg h]
      simp [g]
theorem cmpQ_zero {x y : Rat} : cmpQ x y = 0 ↔ x = y := by
  unfold cmpQ
  by_cases h : x < y
  · rw [if_pos h, if_neg (by grind)]
    have : ¬ x = y := by grind
    simp [this]
  · by_cases g : y < x
    · rw [if_pos g, if_neg h]
      have : ¬ x = y := by grind
      simp [this]
    · rw [if_neg g, if_neg h]
      have : x = y := by grind
      simp [this]
theorem ShOk.cmp (x y : Rat) : ShOk (.int (cmpQ x y)) := by
  unfold cmpQ
  split <;> split <;> exact ⟨by decide +kernel, by decide +kernel, by decide +kernel⟩
theorem low_of (x y : Rat) : extQ (-1) [y, y, y, y, x, y] = if x < y then x else y := by
  have h0 : ¬ cmpQ y y = -1 := fun z => by have := cmpQ_neg.mp z; grind
  by_cases h : x < y
  · have h1 : cmpQ x y = -1 := cmpQ_neg.mpr h
    have h2 : ¬ cmpQ y x = -1 := fun z => by have := cmpQ_neg.mp z; grind
    simp [extQ, List.foldl, h0, h1, h2, h]
  · have h1 : ¬ cmpQ x y = -1 := fun z => h (cmpQ_neg.mp z)
    simp [extQ, List.foldl, h0, h1, h]
theorem high_of (x y : Rat) : extQ 1 [y, y, y, y, x, y] = if x < y then y else x := by
  have h0 : ¬ cmpQ y y = 1 := fun z => by have := cmpQ_pos.mp z; grind
  by_cases h : x < y
  · have h1 : ¬ cmpQ x y = 1 := fun z => by have := cmpQ_pos.mp z; grind
    simp [extQ, List.foldl, h0, h1, h]
  · by_cases g : y < x
    · have h1 : cmpQ x y = 1 := cmpQ_pos.mpr g
      have h2 : ¬ cmpQ y x = 1 := fun z => by have := cmpQ_pos.mp z; grind
      simp [extQ, List.foldl, h0, h1, h2, h]
    · have e : x = y := by grind
      subst e
      simp [extQ, List.foldl, h0]
theorem big2 {i j k l : Int} (h1 : i.natAbs < 2 ^ 200) (h2 : j.natAbs < 2 ^ 200) (h3 : k.natAbs < 2 ^ 200) (h4 : l.natAbs < 2 ^ 200) : (i * j + k * l).natAbs < 2 ^ 3000 := by
  have a := mul_bits h1 h2
  have b := mul_bits h3 h4
  have c := Int.natAbs_add_le (i * j) (k * l)
  have d : 2 ^ (200 + 200) + 2 ^ (200 + 200) < 2 ^ 3000 := by decide
  omega
theorem big2s {i j k l : Int} (h1 : i.natAbs < 2 ^ 200) (h2 : j.natAbs < 2 ^ 200) (h3 : k.natAbs < 2 ^ 200) (h4 : l.natAbs < 2 ^ 200) : (i * j - k * l).natAbs < 2 ^ 3000 := by
  have a := mul_bits h1 h2
  have b := mul_bits h3 h4
  have c := Int.natAbs_sub_le (i * j) (k * l)
  have d : 2 ^ (200 + 200) + 2 ^ (200 + 200) < 2 ^ 3000 := by decide
  omega
theorem big1 {i j : Int} (h1 : i.natAbs < 2 ^ 200) (h2 : j.natAbs < 2 ^ 200) : (i * j).natAbs < 2 ^ 3000 := Nat.lt_trans (mul_bits h1 h2) (by decide)
theorem GoodP.t200 {n d : Int} (h : GoodP n d) : n.natAbs < 2 ^ 200 := Nat.lt_trans h.top (by decide)
theorem GoodP.b200 {n d : Int} (h : GoodP n d) : d.natAbs < 2 ^ 200 := Nat.lt_trans h.bot (by decide)
theorem add_pq {a b c d : Int} (hb : b ≠ 0) (hd : d ≠ 0) : Rat.divInt a b + Rat.divInt c d = Rat.divInt (a * d + c * b) (b * d) := Rat.divInt_add_divInt _ _ hb hd
theorem sub_pq {a b c d : Int} (hb : b ≠ 0) (hd : d ≠ 0) : Rat.divInt a b - Rat.divInt c d = Rat.divInt (a * d - c * b) (b * d) := Rat.divInt_sub_divInt _ _ hb hd
theorem mul_pq {a b c d : Int} : Rat.divInt a b * Rat.divInt c d = Rat.divInt (a * c) (b * d) := Rat.divInt_mul_divInt _ _
theorem div_pq {a b c d : Int} (hc : c ≠ 0) (hd : d ≠ 0) : Rat.divInt a b / Rat.divInt c d = Rat.divInt (a * d) (b * c) := by
  rw [Rat.div_def, Rat.inv_divInt, mul_pq]
theorem sum7 {l m r u : Int} (hm : m ≠ 0) (hu : u ≠ 0) : sumQ [Rat.divInt l m, Rat.divInt r u, Rat.divInt l m, Rat.divInt r u, 0, Rat.divInt l m, Rat.divInt r u] = Rat.divInt (3 * l * u + 3 * r * m) (m * u) := by
  have e : sumQ [Rat.divInt l m, Rat.divInt r u, Rat.divInt l m, Rat.divInt r u, 0, Rat.divInt l m, Rat.divInt r u] = 3 * (Rat.divInt l m + Rat.divInt r u) := by
    simp only [sumQ, List.foldl]
    grind
  rw [e, add_pq hm hu, show (3 : Rat) = Rat.divInt 3 1 from rfl, mul_pq]
  congr 1 <;> grind
section
variable {P : Program} {w : World} {K : PySem.W.Frag} {mg : Str → Option Value} {base : Heap}
theorem qv_ty (T : Tx K mg base) {H : Hp} {v : V} {q : Rat} (h : Qv K H v q) : ∃ t, TyX K H v t ∧ (t = .ref (cA K) ∨ ∃ Tz, t = .type Tz ∧ Tz ∈ tyNames) := by
  cases h with
  | obj h =>
    obtain ⟨d, e⟩ := h
    exact ⟨_, T.ins_Amount e, .inl rfl⟩
  | int i => exact ⟨_, .base (.int i), .inr ⟨_, rfl, by decide⟩⟩
def spTwo (K : PySem.W.Frag) : Sp := fun vs H Q _ => ∃ (a : Addr) (v : V) (s t : Addr) (l m r u : Int), vs = [.ref a, v, .ref s, .ref t] ∧ IsQ K H a (Rat.divInt l m) ∧ Qv K H v (Rat.divInt r u) ∧ H s = some (.tup [.int l, .int m]) ∧ H t = some (.tup [.int r, .int u]) ∧ GoodP l m ∧ GoodP r u ∧ ∀ H', Same H H' → Q (.bl true) H'
theorem sc_w_two_right : FnScope ["_law_one", "_law_other", "_law_left", "_law_right", "_law_low", "_law_due", "_law_both", "_law_high"] ["_law_one", "_law_other", "_law_left", "_law_right"] (defScope s_w_two_right) := ⟨rfl, rfl, rfl, by decide +kernel, rfl, by decide +kernel, by decide +kernel⟩
theorem ok_w_two_right (T : Tx K mg base) : OkG P w K mg base 14 (d_w_two_right.loc K) ["_law_one", "_law_other", "_law_left", "_law_right"] (spTwo K) := by
  refine mk_okG (k := 13) T.f_w_two_right sc_w_two_right (fun _ _ _ _ _ _ us hl => match us, hl with | [_, _, _, _], _ => rfl) (fun vs H Q E h => ?_) (fun cdv A outer s H vs Q E hgd hr h => ?_)
  · obtain ⟨a, v, s, t, l, m, r, u, rfl, _⟩ := h
    rfl
  · obtain ⟨a, v, s', t, l, m, r, u, rfl, ha, hv, hs, ht, g1, g2, k⟩ := h
    refine ⟨_, (pss_cons (ps_set (i := 4) sc_w_two_right.nd rfl (Or.inl rfl) (pe_op op_mulW (pe_ix ix_tup (pv 2) pe_int (fun _ _ => rfl)) (pe_ix ix_tup (pv 3) pe_int (fun _ _ => rfl))))
      (pss_cons (ps_set (i := 5) sc_w_two_right.nd rfl (Or.inl rfl) (pe_tup (pa_cons (pe_op op_add (pe_op op_mulW (pe_ix ix_tup (pv 2) pe_int (fun _ _ => rfl)) (pe_ix ix_tup (pv 3) pe_int (fun _ _ => rfl))) (pe_op op_mulW (pe_ix ix_tup (pv 3) pe_int (fun _ _ => rfl)) (pe_ix ix_tup (pv 2) pe_int (fun _ _ => rfl)))) (pa_cons (pv 4) pa_nil))))
      (pss_cons (ps_if (pt_not (pt_val (ok_call (ok_w_is_pair T) (hr.mono (by decide)) rfl T.g_w_is_pair passL (pa_cons (pe_op (op_own T.op_Amount_add (ok_Amount_add_ T) (hr.mono (by decide)) (passE rfl rfl rfl rfl)) (pv 0) (pv 1)) (pa_cons (pv 5) pa_nil))))) (pss_one (ps_ret pe_bl)) pss_nil)
      (pss_cons (ps_set (i := 5) sc_w_two_right.nd rfl (Or.inl rfl) (pe_tup (pa_cons (pe_op op_sub (pe_op op_mulW (pe_ix ix_tup (pv 2) pe_int (fun _ _ => rfl)) (pe_ix ix_tup (pv 3) pe_int (fun _ _ => rfl))) (pe_op op_mulW (pe_ix ix_tup (pv 3) pe_int (fun _ _ => rfl)) (pe_ix ix_tup (pv 2) pe_int (fun _ _ => rfl)))) (pa_cons (pv 4) pa_nil))))
      (pss_cons (ps_if (pt_not (pt_val (ok_call (ok_w_is_pair T) (hr.mono (by decide)) rfl T.g_w_is_pair passL (pa_cons (pe_op (op_own T.op_Amount_sub (ok_Amount_sub_ T) (hr.mono (by decide)) (passE rfl rfl rfl rfl)) (pv 0) (pv 1)) (pa_cons (pv 5) pa_nil))))) (pss_one (ps_ret pe_bl)) pss_nil)
      (pss_cons (ps_set (i := 5) sc_w_two_right.nd rfl (Or.inl rfl) (pe_tup (pa_cons (pe_op op_mulW (pe_ix ix_tup (pv 2) pe_int (fun _ _ => rfl)) (pe_ix ix_tup (pv 3) pe_int (fun _ _ => rfl))) (pa_cons (pe_op op_mulW (pe_ix ix_tup (pv 2) pe_int (fun _ _ => rfl)) (pe_ix ix_tup (pv 3) pe_int (fun _ _ => rfl))) pa_nil))))
      (pss_cons (ps_if (pt_not (pt_val (ok_call (ok_w_is_pair T) (hr.mono (by decide)) rfl T.g_w_is_pair passL (pa_cons (pe_op (op_own T.op_Amount_mul (ok_Amount_mul_ T) (hr.mono (by decide)) (passE rfl rfl rfl rfl)) (pv 0) (pv 1)) (pa_cons (pv 5) pa_nil))))) (pss_one (ps_ret pe_bl)) pss_nil)
      (pss_cons (ps_set (i := 5) sc_w_two_right.nd rfl (Or.inl rfl) (pe_tup (pa_cons (pe_op op_mulW (pe_ix ix_tup (pv 2) pe_int (fun _ _ => rfl)) (pe_ix ix_tup (pv 3) pe_int (fun _ _ => rfl))) (pa_cons (pe_op op_mulW (pe_ix ix_tup (pv 2) pe_int (fun _ _ => rfl)) (pe_ix ix_tup (pv 3) pe_int (fun _ _ => rfl))) pa_nil))))
      (Evl.pss_cut (ps_if (PW.pt (pw_and (pt_cmpR op_ne (pe_ix ix_tup (pv 3) pe_int (fun _ _ => rfl)) pe_int (nomark _)) (pw_and1 (pt_not (pt_val (ok_call (ok_w_is_pair T) (hr.mono (by decide)) rfl T.g_w_is_pair passL (pa_cons (ok_meth T.cls_Amount T.m_Amount_divided (ok_Amount_divided T) (hr.mono (by decide)) (passE rfl rfl rfl rfl) (pv 0) (pa_cons (pv 1) pa_nil)) (pa_cons (pv 5) pa_nil)))))))) (pss_one (ps_ret pe_bl)) pss_nil)
      (pss_cons (ps_set (i := 6) sc_w_two_right.nd rfl (Or.inl rfl) (ok_callR (oks_total T) (hr.mono (by decide)) rfl T.g_total (passE rfl rfl rfl rfl) (pa_cons (pv 0) (pa_cons (pv 1) (pa_cons (pv 0) (pa_cons (pv 1) (pa_cons pe_int (pa_cons (pv 0) (pa_cons (pv 1) pa_nil)))))))))
      (pss_cons (ps_if (pt_not (pt_val (ok_call (ok_w_is_pair T) (hr.mono (by decide)) rfl T.g_w_is_pair passL (pa_cons (pv 6) (pa_cons (pe_tup (pa_cons (pe_op op_add (pe_op op_mulW (pe_op op_mulW pe_int (pe_ix ix_tup (pv 2) pe_int (fun _ _ => rfl))) (pe_ix ix_tup (pv 3) pe_int (fun _ _ => rfl))) (pe_op op_mulW (pe_op op_mulW pe_int (pe_ix ix_tup (pv 3) pe_int (fun _ _ => rfl))) (pe_ix ix_tup (pv 2) pe_int (fun _ _ => rfl)))) (pa_cons (pv 4) pa_nil))) pa_nil))))) (pss_one (ps_ret pe_bl)) pss_nil)
      (Evl.pss_cut (ps_asg (pe_ifExp (pt_cmpR op_lt (ok_call (ok_w_sign T) (hr.mono (by decide)) rfl T.g_w_sign passL (pa_cons (pv 2) (pa_cons (pv 3) pa_nil))) pe_int (nomark _)) (pe_tup (pa_cons (pv 2) (pa_cons (pv 3) pa_nil))) (pe_tup (pa_cons (pv 3) (pa_cons (pv 2) pa_nil)))) (pg_tup rfl (pgs_cons (pg_name (i := 4) sc_w_two_right.nd rfl (Or.inl rfl)) (pgs_cons (pg_name (i := 7) sc_w_two_right.nd rfl (Or.inl rfl)) pgs_nil))))
      (pss_cons (ps_if (pt_not (pt_val (ok_call (ok_w_is_pair T) (hr.mono (by decide)) rfl T.g_w_is_pair passL (pa_cons (ok_callR (oks_least T) (hr.mono (by decide)) rfl T.g_least (passE rfl rfl rfl rfl) (pa_cons (pv 1) (pa_cons (pv 1) (pa_cons (pv 1) (pa_cons (pv 1) (pa_cons (pv 0) (pa_cons (pv 1) pa_nil))))))) (pa_cons (pv 4) pa_nil))))) (pss_one (ps_ret pe_bl)) pss_nil)
      (pss_cons (ps_if (pt_not (pt_val (ok_call (ok_w_is_pair T) (hr.mono (by decide)) rfl T.g_w_is_pair passL (pa_cons (ok_callR (oks_greatest T) (hr.mono (by decide)) rfl T.g_greatest (passE rfl rfl rfl rfl) (pa_cons (pv 1) (pa_cons (pv 1) (pa_cons (pv 1) (pa_cons (pv 1) (pa_cons (pv 0) (pa_cons (pv 1) pa_nil))))))) (pa_cons (pv 7) pa_nil))))) (pss_one (ps_ret pe_bl)) pss_nil)
      (pss_one (ps_ret (pe_cmpR op_eq (pe_callB (call_repr hgd hr T.sys) (by rfl) T.b_repr (by decide +kernel) (pa_cons (ok_meth T.cls_Amount T.m_Amount_compare (ok_Amount_compare T) (hr.mono (by decide)) (passE rfl rfl rfl rfl) (pv 0) (pa_cons (pv 1) pa_nil)) pa_nil)) (pe_callB (call_repr hgd hr T.sys) (by rfl) T.b_repr (by decide +kernel) (pa_cons (ok_call (ok_w_sign T) (hr.mono (by decide)) rfl T.g_w_sign passL (pa_cons (pv 2) (pa_cons (pv 3) pa_nil))) pa_nil)) (nomark _)))))))))))))))))), ?_⟩
    have x3 : Bits 3000 (Rat.divInt l m) := g1.bits.mono (by decide)
    have y3 : Bits 3000 (Rat.divInt r u) := g2.bits.mono (by decide)
    have low0 : m * u ≠ 0 := Int.mul_ne_zero g1.ne g2.ne
    have lowb : (m * u).natAbs < 2 ^ 3000 := big1 g1.b200 g2.b200
    have cm : ∀ {i j : Int}, i.natAbs < 2 ^ 200 → j.natAbs < 2 ^ 200 → CMulW i j := fun h g => wide_mul (a := 200) (b := 200) h g (by decide) (by decide) (by decide)
    obtain ⟨da, ha1⟩ := id ha
    -- low, the sum
    refine ⟨_, rfl, s', _, 1, _, rfl, rfl, SqT.of hs, rfl, _, rfl, t, _, 1, _, rfl, rfl, SqT.of ht, rfl, _, _, rfl, rfl, cm g1.b200 g2.b200, ?_⟩
    refine ⟨_, rfl, s', _, 0, _, rfl, rfl, SqT.of hs, rfl, _, rfl, t, _, 1, _, rfl, rfl, SqT.of ht, rfl, _, _, rfl, rfl, cm g1.t200 g2.b200, _, rfl, t, _, 0, _, rfl, rfl, SqT.of ht, rfl, _, rfl, s', _, 1, _, rfl, rfl, SqT.of hs, rfl, _, _, rfl, rfl, cm g2.t200 g1.b200, _, _, rfl, rfl, _, rfl, (by show 2 ≤ sizeLine; decide), fun q1 gq1 => ?_⟩
    have s1 := AT.Same.up (o := .tup [.int (l * u + r * m), .int (m * u)]) gq1
    have h1 : upd H q1 (.tup [.int (l * u + r * m), .int (m * u)]) q1 = some (.tup [.int (l * u + r * m), .int (m * u)]) := upd_same
    generalize upd H q1 (.tup [.int (l * u + r * m), .int (m * u)]) = H1 at s1 h1 ⊢
    obtain ⟨tv, ty, htv⟩ := qv_ty T (hv.up s1)
    refine ⟨_, rfl, _, rfl, a, da, _, _, rfl, s1 _ _ ha1, ty, htv, a, v, _, rfl, ha.up s1, x3, (hv.up s1).any, .inl ⟨_, hv.up s1, y3, fun p1 H2 s2 _ hp1 => ?_⟩⟩
    refine ⟨_, rfl, p1, q1, _, _, _, rfl, hp1, (g1.bits.add g2.bits).mono (by decide), s2 _ _ h1, low0, big2 g1.t200 g2.b200 g2.t200 g1.b200, lowb, _, rfl, ?_⟩
    rw [decide_eq_true (add_pq g1.ne g2.ne)]
    have s02 := s1.trans s2
    clear h1 hp1
    have hs2 := s02 _ _ hs
    have ht2 := s02 _ _ ht
    -- the difference
    refine iteF ?_
    refine ⟨_, rfl, s', _, 0, _, rfl, rfl, SqT.of hs2, rfl, _, rfl, t, _, 1, _, rfl, rfl, SqT.of ht2, rfl, _, _, rfl, rfl, cm g1.t200 g2.b200, _, rfl, t, _, 0, _, rfl, rfl, SqT.of ht2, rfl, _, rfl, s', _, 1, _, rfl, rfl, SqT.of hs2, rfl, _, _, rfl, rfl, cm g2.t200 g1.b200, _, _, rfl, rfl, _, rfl, (by show 2 ≤ sizeLine; decide), fun q3 gq3 => ?_⟩
    have s3 := AT.Same.up (o := .tup [.int (l * u - r * m), .int (m * u)]) gq3
    have h3 : upd H2 q3 (.tup [.int (l * u - r * m), .int (m * u)]) q3 = some (.tup [.int (l * u - r * m), .int (m * u)]) := upd_same
    generalize upd H2 q3 (.tup [.int (l * u - r * m), .int (m * u)]) = H3 at s3 h3 ⊢
    have s03 := s02.trans s3
    obtain ⟨tv3, ty3, htv3⟩ := qv_ty T (hv.up s03)
    refine ⟨_, rfl, _, rfl, a, da, _, _, rfl, s03 _ _ ha1, ty3, htv3, a, v, _, rfl, ha.up s03, x3, (hv.up s03).any, .inl ⟨_, hv.up s03, y3, fun p4 H4 s4 _ hp4 => ?_⟩⟩
    refine ⟨_, rfl, p4, q3, _, _, _, rfl, hp4, (g1.bits.sub g2.bits).mono (by decide), s4 _ _ h3, low0, big2s g1.t200 g2.b200 g2.t200 g1.b200, lowb, _, rfl, ?_⟩
    rw [decide_eq_true (sub_pq g1.ne g2.ne)]
    have s04 := s03.trans s4
    clear h3 hp4
    have hs4 := s04 _ _ hs
    have ht4 := s04 _ _ ht
    -- the product
    refine iteF ?_
    refine ⟨_, rfl, s', _, 0, _, rfl, rfl, SqT.of hs4, rfl, _, rfl, t, _, 0, _, rfl, rfl, SqT.of ht4, rfl, _, _, rfl, rfl, cm g1.t200 g2.t200, _, rfl, s', _, 1, _, rfl, rfl, SqT.of hs4, rfl, _, rfl, t, _, 1, _, rfl, rfl, SqT.of ht4, rfl, _, _, rfl, rfl, cm g1.b200 g2.b200, (by show 2 ≤ sizeLine; decide), fun q5 gq5 => ?_⟩
    have s5 := AT.Same.up (o := .tup [.int (l * r), .int (m * u)]) gq5
    have h5 : upd H4 q5 (.tup [.int (l * r), .int (m * u)]) q5 = some (.tup [.int (l * r), .int (m * u)]) := upd_same
    generalize upd H4 q5 (.tup [.int (l * r), .int (m * u)]) = H5 at s5 h5 ⊢
    have s05 := s04.trans s5
    obtain ⟨tv5, ty5, htv5⟩ := qv_ty T (hv.up s05)
    refine ⟨_, rfl, _, rfl, a, da, _, _, rfl, s05 _ _ ha1, ty5, htv5, a, v, _, rfl, ha.up s05, x3, (hv.up s05).any, .inl ⟨_, hv.up s05, y3, fun p6 H6 s6 _ hp6 => ?_⟩⟩
    refine ⟨_, rfl, p6, q5, _, _, _, rfl, hp6, (g1.bits.mul g2.bits).mono (by decide), s6 _ _ h5, low0, big1 g1.t200 g2.t200, lowb, _, rfl, ?_⟩
    rw [decide_eq_true mul_pq]
    have s06 := s05.trans s6
    clear h5 hp6
    have hs6 := s06 _ _ hs
    have ht6 := s06 _ _ ht
    -- the quotient
    refine iteF ?_
    refine ⟨_, rfl, s', _, 0, _, rfl, rfl, SqT.of hs6, rfl, _, rfl, t, _, 1, _, rfl, rfl, SqT.of ht6, rfl, _, _, rfl, rfl, cm g1.t200 g2.b200, _, rfl, s', _, 1, _, rfl, rfl, SqT.of hs6, rfl, _, rfl, t, _, 0, _, rfl, rfl, SqT.of ht6, rfl, _, _, rfl, rfl, cm g1.b200 g2.t200, (by show 2 ≤ sizeLine; decide), fun q7 gq7 => ?_⟩
    have s7 := AT.Same.up (o := .tup [.int (l * u), .int (m * r)]) gq7
    have h7 : upd H6 q7 (.tup [.int (l * u), .int (m * r)]) q7 = some (.tup [.int (l * u), .int (m * r)]) := upd_same
    generalize upd H6 q7 (.tup [.int (l * u), .int (m * r)]) = H7 at s7 h7 ⊢
    have s07 := s06.trans s7
    refine ⟨fun σ' H' => σ' = ([some (.ref a), some v, some (.ref s'), some (.ref t), some (.int (m * u)), some (.ref q7), none, none] : L2.St) ∧ Same H H', ?_, ?_⟩
    · refine ⟨_, rfl, t, _, 0, _, rfl, rfl, SqT.of (s7 _ _ ht6), rfl, rfl, _, rfl, ?_⟩
      by_cases r0 : r = 0
      · subst r0
        rw [decide_eq_true rfl]
        exact iteF ⟨rfl, s07⟩
      · rw [decide_eq_false (fun z => r0 (V.int.inj z))]
        have y0 : Rat.divInt r u ≠ 0 := fun z => by
          have e : Rat.divInt r u = Rat.divInt 0 1 := z
          have := (Rat.divInt_eq_divInt_iff g2.ne (by decide)).mp e
          omega
        refine iteT ⟨_, rfl, a, da, _, rfl, s07 _ _ ha1, rfl, _, rfl, a, v, _, rfl, ha.up s07, x3, (hv.up s07).any, .inl ⟨_, hv.up s07, y3, y0, fun p8 H8 s8 _ hp8 => ?_⟩⟩
        refine ⟨_, rfl, p8, q7, _, _, _, rfl, hp8, (g1.bits.div g2.bits y0).mono (by decide), s8 _ _ h7, Int.mul_ne_zero g1.ne r0, big1 g1.t200 g2.b200, big1 g1.b200 g2.t200, _, rfl, ?_⟩
        rw [decide_eq_true (div_pq r0 g2.ne)]
        exact iteF ⟨rfl, s07.trans s8⟩
    rintro _ H8 ⟨rfl, s08⟩
    clear h7 s7 gq7
    have hs8 := s08 _ _ hs
    have ht8 := s08 _ _ ht
    -- total
    refine ⟨_, rfl, _, rfl, _, rfl, _, rfl, _, rfl, _, rfl, (by show 7 ≤ sizeLine; decide), fun pT gT => ?_⟩
    have sT := AT.Same.up (o := .tup [.ref a, v, .ref a, v, .int 0, .ref a, v]) gT
    have haT := ha.up (s08.trans sT)
    have hvT := hv.up (s08.trans sT)
    have hz0 : Qv K (upd H8 pT (.tup [.ref a, v, .ref a, v, .int 0, .ref a, v])) (.int 0) 0 := Qv.int 0
    refine ⟨pT, _, rfl, upd_same, (by show 7 ≤ 20; decide), fun z hz => ?_, .inl ⟨[Rat.divInt l m, Rat.divInt r u, Rat.divInt l m, Rat.divInt r u, 0, Rat.divInt l m, Rat.divInt r u], .cons (.obj haT) (.cons hvT (.cons (.obj haT) (.cons hvT (.cons hz0 (.cons (.obj haT) (.cons hvT .nil)))))), fun q hq => ?_, fun rT H9 s9 hrT => ?_⟩⟩
    · simp only [List.mem_cons, List.not_mem_nil, or_false] at hz
      rcases hz with rfl | rfl | rfl | rfl | rfl | rfl | rfl
      · exact .amt haT
      · exact hvT.any
      · exact .amt haT
      · exact hvT.any
      · exact .int _
      · exact .amt haT
      · exact hvT.any
    · simp only [List.mem_cons, List.not_mem_nil, or_false] at hq
      rcases hq with rfl | rfl | rfl | rfl | rfl | rfl | rfl
      · exact g1.bits
      · exact g2.bits
      · exact g1.bits
      · exact g2.bits
      · exact bits_zero.mono (by decide)
      · exact g1.bits
      · exact g2.bits
    have s09 := s08.trans (sT.trans s9)
    have hs9 := s09 _ _ hs
    have ht9 := s09 _ _ ht
    have c3 : ∀ {i : Int}, i.natAbs < 2 ^ 100 → (3 * i).natAbs < 2 ^ 200 := fun h => by
      have : 2 ^ 100 * 3 < 2 ^ 200 := by decide
      omega
    have c3w : ∀ {i : Int}, i.natAbs < 2 ^ 200 → CMulW 3 i := fun h => wide_mul (a := 2) (b := 200) (by decide) h (by decide) (by decide) (by decide)
    have hqT : ∀ q ∈ [Rat.divInt l m, Rat.divInt r u, Rat.divInt l m, Rat.divInt r u, 0, Rat.divInt l m, Rat.divInt r u], Bits 128 q := fun q hq => by
      simp only [List.mem_cons, List.not_mem_nil, or_false] at hq
      rcases hq with rfl | rfl | rfl | rfl | rfl | rfl | rfl
      · exact g1.bits
      · exact g2.bits
      · exact g1.bits
      · exact g2.bits
      · exact bits_zero.mono (by decide)
      · exact g1.bits
      · exact g2.bits
    refine ⟨_, rfl, _, rfl, s', _, 0, _, rfl, rfl, SqT.of hs9, rfl, _, _, rfl, rfl, c3w g1.t200, _, rfl, t, _, 1, _, rfl, rfl, SqT.of ht9, rfl, _, _, rfl, rfl, cm (c3 g1.top) g2.b200, ?_⟩
    refine ⟨_, rfl, t, _, 0, _, rfl, rfl, SqT.of ht9, rfl, _, _, rfl, rfl, c3w g2.t200, _, rfl, s', _, 1, _, rfl, rfl, SqT.of hs9, rfl, _, _, rfl, rfl, cm (c3 g2.top) g1.b200, _, _, rfl, rfl, _, rfl, (by show 2 ≤ sizeLine; decide), fun q10 gq10 => ?_⟩
    have s10 := AT.Same.up (o := .tup [.int (3 * l * u + 3 * r * m), .int (m * u)]) gq10
    have h10 : upd H9 q10 (.tup [.int (3 * l * u + 3 * r * m), .int (m * u)]) q10 = some (.tup [.int (3 * l * u + 3 * r * m), .int (m * u)]) := upd_same
    generalize upd H9 q10 (.tup [.int (3 * l * u + 3 * r * m), .int (m * u)]) = H10 at s10 h10 ⊢
    have s010 := s09.trans s10
    refine ⟨rT, q10, _, _, _, rfl, hrT.up s10, sumQ_bits hqT (by show 7 ≤ 20; decide), h10, low0, big2 (c3 g1.top) g2.b200 (c3 g2.top) g1.b200, lowb, _, rfl, ?_⟩
    rw [decide_eq_true (sum7 g1.ne g2.ne)]
    refine iteF ?_
    clear h10 hrT
    have hs10 := s010 _ _ hs
    have ht10 := s010 _ _ ht
    have sgn_lt : (sgnP l m r u < 0) ↔ Rat.divInt l m < Rat.divInt r u := by
      unfold sgnP
      rw [← cmpQ_neg]
      unfold cmpQ
      split <;> split <;> decide
    refine ⟨fun σ' H' => ∃ b1 b2 n1 d1 n2 d2, σ' = ([some (.ref a), some v, some (.ref s'), some (.ref t), some (.ref b1), some (.ref q7), some (.ref rT), some (.ref b2)] : L2.St) ∧ Same H10 H' ∧ H' b1 = some (.tup [.int n1, .int d1]) ∧ H' b2 = some (.tup [.int n2, .int d2]) ∧ GoodP n1 d1 ∧ GoodP n2 d2 ∧
      Rat.divInt n1 d1 = (if Rat.divInt l m < Rat.divInt r u then Rat.divInt l m else Rat.divInt r u) ∧ Rat.divInt n2 d2 = (if Rat.divInt l m < Rat.divInt r u then Rat.divInt r u else Rat.divInt l m), ?_, ?_⟩
    · refine ⟨_, rfl, _, rfl, s', t, l, m, r, u, rfl, hs10, ht10, g1, g2, _, _, rfl, rfl, _, rfl, ?_⟩
      by_cases c : Rat.divInt l m < Rat.divInt r u
      · rw [decide_eq_true (sgn_lt.mpr c)]
        refine iteT ⟨_, rfl, _, rfl, (by show 2 ≤ sizeLine; decide), fun q gq => ⟨q, _, rfl, SqT.of upd_same, rfl, _, _, rfl, _, _, rfl, rfl, ?_⟩⟩
        have sq := AT.Same.up (o := .tup [.ref s', .ref t]) gq
        exact ⟨s', t, l, m, r, u, rfl, sq, sq _ _ hs10, sq _ _ ht10, g1, g2, by rw [if_pos c], by rw [if_pos c]⟩
      · rw [decide_eq_false (fun z => c (sgn_lt.mp z))]
        refine iteF ⟨_, rfl, _, rfl, (by show 2 ≤ sizeLine; decide), fun q gq => ⟨q, _, rfl, SqT.of upd_same, rfl, _, _, rfl, _, _, rfl, rfl, ?_⟩⟩
        have sq := AT.Same.up (o := .tup [.ref t, .ref s']) gq
        exact ⟨t, s', r, u, l, m, rfl, sq, sq _ _ ht10, sq _ _ hs10, g2, g1, by rw [if_neg c], by rw [if_neg c]⟩
    rintro _ H11 ⟨b1, b2, n1, d1, n2, d2, rfl, s11, hb1, hb2, gg1, gg2, e1, e2⟩
    have s011 := s010.trans s11
    have hqE : ∀ q ∈ [Rat.divInt r u, Rat.divInt r u, Rat.divInt r u, Rat.divInt r u, Rat.divInt l m, Rat.divInt r u], Bits 128 q := fun q hq => by
      simp only [List.mem_cons, List.not_mem_nil, or_false] at hq
      rcases hq with rfl | rfl | rfl | rfl | rfl | rfl
      · exact g2.bits
      · exact g2.bits
      · exact g2.bits
      · exact g2.bits
      · exact g1.bits
      · exact g2.bits
    have anyE : ∀ {H' : Hp}, Same H H' → ∀ z ∈ [v, v, v, v, .ref a, v], AnyV K H' z := fun {H'} s z hz => by
      simp only [List.mem_cons, List.not_mem_nil, or_false] at hz
      rcases hz with rfl | rfl | rfl | rfl | rfl | rfl
      · exact (hv.up s).any
      · exact (hv.up s).any
      · exact (hv.up s).any
      · exact (hv.up s).any
      · exact .amt (ha.up s)
      · exact (hv.up s).any
    have prE : ∀ {H' : Hp}, Same H H' → Paired (Qv K H') [v, v, v, v, .ref a, v] [Rat.divInt r u, Rat.divInt r u, Rat.divInt r u, Rat.divInt r u, Rat.divInt l m, Rat.divInt r u] := fun {H'} s =>
      .cons (hv.up s) (.cons (hv.up s) (.cons (hv.up s) (.cons (hv.up s) (.cons (.obj (ha.up s)) (.cons (hv.up s) .nil)))))
    -- least
    refine ⟨_, rfl, _, rfl, _, rfl, _, rfl, _, rfl, _, rfl, (by show 6 ≤ sizeLine; decide), fun pL gL => ?_⟩
    have sL := AT.Same.up (o := .tup [v, v, v, v, .ref a, v]) gL
    refine ⟨pL, rfl, pL, _, -1, rfl, upd_same, (by show 6 ≤ 20; decide), anyE (s011.trans sL), .inr ⟨nofun, .inl ⟨_, prE (s011.trans sL), hqE, fun rL H12 s12 hrL => ?_⟩⟩⟩
    have s112 := sL.trans s12
    have s012 := s011.trans s112
    refine ⟨_, rfl, rL, b1, _, _, _, rfl, hrL, ?_, s112 _ _ hb1, gg1.ne, Nat.lt_trans gg1.top (by decide), Nat.lt_trans gg1.bot (by decide), _, rfl, ?_⟩
    · rw [low_of, ← e1]
      exact gg1.bits.mono (by decide)
    rw [decide_eq_true (show extQ (-1) _ = _ by rw [low_of, ← e1])]
    refine iteF ?_
    -- greatest
    refine ⟨_, rfl, _, rfl, _, rfl, _, rfl, _, rfl, _, rfl, (by show 6 ≤ sizeLine; decide), fun pG gG => ?_⟩
    have sG := AT.Same.up (o := .tup [v, v, v, v, .ref a, v]) gG
    refine ⟨pG, rfl, pG, _, 1, rfl, upd_same, (by show 6 ≤ 20; decide), anyE (s012.trans sG), .inr ⟨nofun, .inl ⟨_, prE (s012.trans sG), hqE, fun rG H13 s13 hrG => ?_⟩⟩⟩
    have s113 := s112.trans (sG.trans s13)
    have s013 := s012.trans (sG.trans s13)
    refine ⟨_, rfl, rG, b2, _, _, _, rfl, hrG, ?_, s113 _ _ hb2, gg2.ne, Nat.lt_trans gg2.top (by decide), Nat.lt_trans gg2.bot (by decide), _, rfl, ?_⟩
    · rw [high_of, ← e2]
      exact gg2.bits.mono (by decide)
    rw [decide_eq_true (show extQ 1 _ = _ by rw [high_of, ← e2])]
    refine iteF ?_
    -- compare
    have ha13 := ha.up s013
    obtain ⟨d13, ha13'⟩ := id ha13
    refine ⟨_, rfl, a, d13, _, rfl, ha13', rfl, _, rfl, a, v, _, rfl, ha13, x3, (hv.up s013).any, .inl ⟨_, hv.up s013, y3, fun H14 s14 => ?_⟩⟩
    have sh := ShOk.cmp (Rat.divInt l m) (Rat.divInt r u)
    have s014 := s013.trans s14
    refine ⟨_, .int (cmpQ (Rat.divInt l m) (Rat.divInt r u)), rfl, .int _, sh.1, sh.2.1, sh.2.2, ?_⟩
    refine ⟨_, rfl, _, rfl, s', t, l, m, r, u, rfl, s014 _ _ hs, s014 _ _ ht, g1, g2, ?_⟩
    refine ⟨_, .int (cmpQ (Rat.divInt l m) (Rat.divInt r u)), rfl, .int _, sh.1, sh.2.1, sh.2.2, rfl, ?_⟩
    rw [decide_eq_true rfl]
    exact k _ s014
end
end K02

set_option maxHeartbeats 8000000
namespace K02
open PySem PySem.Spec PyProof.Rows L2 AT
section
variable {P : Program} {w : World} {K : PySem.W.Frag} {mg : Str → Option Value} {base : Heap}
/-- the sum, the least and the greatest one -/
structure All3 (K : PySem.W.Frag) (H : Hp) (R : Addr) (qs : List Rat) : Prop where
  ex : ∃ r1 r2 r3, H R = some (.lst [.ref r1, .ref r2, .ref r3]) ∧ IsQ K H r1 (sumQ qs) ∧ IsQ K H r2 (extQ (-1) qs) ∧ IsQ K H r3 (extQ 1 qs)
theorem all3 {σ : L2.St} {H : Hp} {E : XK} {Q : VK} {t1 : TA} {vs : List V} {qs : List Rat} (ht : ∀ H' (Q : List V → Hp → Prop), Q vs H' → t1 σ H' Q) (hne : vs ≠ []) (hl : vs.length ≤ 4) (hp : Paired (RQ K H) vs qs) (hb : ∀ q ∈ qs, Bits 128 q)
    (k : ∀ R H', Same H H' → All3 K H' R qs → Q (.ref R) H') :
    tLst (tCons (tCallR (spAll (spTot K)) E t1) (tCons (tCallR (spAll (spEx (-1) K)) E t1) (tCons (tCallR (spAll (spEx 1 K)) E t1) tNil))) σ H Q := by
  have hsl : sizeLine = 16777216 := sizeLine_eq
  have qv : ∀ {H' : Hp}, Same H H' → Paired (Qv K H') vs qs := fun {H'} s => Paired.mapP hp fun _ _ ⟨r, e, z⟩ => by
    subst e
    exact .obj (z.up s)
  have any : ∀ {H' : Hp}, Same H H' → ∀ x ∈ vs, AnyV K H' x := fun {H'} s x hx => by
    obtain ⟨i, hi⟩ := List.getElem?_of_mem hx
    obtain ⟨q, _, hq⟩ := prd_get (qv s) hi
    exact hq.any
  refine ht H _ ⟨by omega, fun p1 g1 => ?_⟩
  have s1 := AT.Same.up (o := .tup vs) g1
  refine ⟨p1, vs, rfl, upd_same, by omega, any s1, .inl ⟨qs, qv s1, hb, fun r1 H1 t1' h1 => ?_⟩⟩
  have s01 := s1.trans t1'
  refine ht H1 _ ⟨by omega, fun p2 g2 => ?_⟩
  have s2 := s01.trans (AT.Same.up (o := .tup vs) g2)
  refine ⟨p2, rfl, p2, vs, -1, rfl, upd_same, by omega, any s2, .inr ⟨hne, .inl ⟨qs, qv s2, hb, fun r2 H2 t2' h2 => ?_⟩⟩⟩
  have s02 := s2.trans t2'
  have s12 := (AT.Same.up (o := .tup vs) g2).trans t2'
  refine ht H2 _ ⟨by omega, fun p3 g3 => ?_⟩
  have s3 := s02.trans (AT.Same.up (o := .tup vs) g3)
  refine ⟨p3, rfl, p3, vs, 1, rfl, upd_same, by omega, any s3, .inr ⟨hne, .inl ⟨qs, qv s3, hb, fun r3 H3 t3' h3 => ?_⟩⟩⟩
  have s23 := (AT.Same.up (o := .tup vs) g3).trans t3'
  refine ⟨(by show 3 ≤ sizeLine; decide), fun R gR => ?_⟩
  have s4 := AT.Same.up (o := .lst [.ref r1, .ref r2, .ref r3]) gR
  exact k R _ (s02.trans (s23.trans s4)) ⟨r1, r2, r3, upd_same, h1.up (s12.trans (s23.trans s4)), h2.up (s23.trans s4), h3.up s4⟩
def spAllW (K : PySem.W.Frag) : Sp := fun vs H Q _ => ∃ (D : Addr) (xs : List V) (qs : List Rat), vs = [.ref D] ∧ H D = some (.lst xs) ∧ Paired (RQ K H) xs qs ∧ 1 ≤ qs.length ∧ qs.length ≤ 4 ∧ (∀ q ∈ qs, Bits 128 q) ∧ ∀ R H', Same H H' → All3 K H' R qs → Q (.ref R) H'
theorem sc_w_all : FnScope ["_law_some", "_law_one", "_law_other", "_law_two", "_law_more"] ["_law_some"] (defScope s_w_all) := ⟨rfl, rfl, rfl, by decide +kernel, rfl, by decide +kernel, by decide +kernel⟩
theorem ok_w_all (T : Tx K mg base) : Ok P w K mg base 9 (d_w_all.loc K) ["_law_some"] (spAllW K) := by
  refine mk_ok (k := 8) T.f_w_all sc_w_all (fun _ _ _ _ _ _ us hl => match us, hl with | [_], _ => rfl) (fun vs H Q E h => ?_) (fun cdv A outer s H vs Q E hr h => ?_)
  · obtain ⟨D, xs, qs, rfl, _⟩ := h
    rfl
  · obtain ⟨D, xs, qs, rfl, hD, hp, h1, h4, hb, k⟩ := h
    refine ⟨_, (pss_cons (ps_par (by rfl) sc_w_all.nd (i := 1) (j := 2) rfl rfl (by decide) rfl rfl (pa_cons (pe_ix ix_list (pv 0) pe_int (fun _ _ => rfl)) (pa_cons (pe_ix ix_list (pv 0) (pe_un un_neg pe_int) (fun _ _ => rfl)) pa_nil)) (by rfl))
      (pss_cons (ps_if (pt_cmpR op_eq (pe_callB call_len_seq (by rfl) T.b_len (by decide +kernel) (pa_cons (pv 0) pa_nil)) pe_int (nomark _)) (pss_one (ps_ret (pe_lst (pa_cons (ok_callR (oks_total T) (hr.mono (by decide)) rfl T.g_total (passE rfl rfl rfl rfl) (pa_cons (pv 1) pa_nil)) (pa_cons (ok_callR (oks_least T) (hr.mono (by decide)) rfl T.g_least (passE rfl rfl rfl rfl) (pa_cons (pv 1) pa_nil)) (pa_cons (ok_callR (oks_greatest T) (hr.mono (by decide)) rfl T.g_greatest (passE rfl rfl rfl rfl) (pa_cons (pv 1) pa_nil)) pa_nil)))))) pss_nil)
      (pss_cons (ps_if (pt_cmpR op_eq (pe_callB call_len_seq (by rfl) T.b_len (by decide +kernel) (pa_cons (pv 0) pa_nil)) pe_int (nomark _)) (pss_one (ps_ret (pe_lst (pa_cons (ok_callR (oks_total T) (hr.mono (by decide)) rfl T.g_total (passE rfl rfl rfl rfl) (pa_cons (pv 1) (pa_cons (pv 2) pa_nil))) (pa_cons (ok_callR (oks_least T) (hr.mono (by decide)) rfl T.g_least (passE rfl rfl rfl rfl) (pa_cons (pv 1) (pa_cons (pv 2) pa_nil))) (pa_cons (ok_callR (oks_greatest T) (hr.mono (by decide)) rfl T.g_greatest (passE rfl rfl rfl rfl) (pa_cons (pv 1) (pa_cons (pv 2) pa_nil))) pa_nil)))))) pss_nil)
      (pss_cons (ps_set (i := 3) sc_w_all.nd rfl (Or.inl rfl) (pe_ix ix_list (pv 0) pe_int (fun _ _ => rfl)))
      (pss_cons (ps_if (pt_cmpR op_eq (pe_callB call_len_seq (by rfl) T.b_len (by decide +kernel) (pa_cons (pv 0) pa_nil)) pe_int (nomark _)) (pss_one (ps_ret (pe_lst (pa_cons (ok_callR (oks_total T) (hr.mono (by decide)) rfl T.g_total (passE rfl rfl rfl rfl) (pa_cons (pv 1) (pa_cons (pv 3) (pa_cons (pv 2) pa_nil)))) (pa_cons (ok_callR (oks_least T) (hr.mono (by decide)) rfl T.g_least (passE rfl rfl rfl rfl) (pa_cons (pv 1) (pa_cons (pv 3) (pa_cons (pv 2) pa_nil)))) (pa_cons (ok_callR (oks_greatest T) (hr.mono (by decide)) rfl T.g_greatest (passE rfl rfl rfl rfl) (pa_cons (pv 1) (pa_cons (pv 3) (pa_cons (pv 2) pa_nil)))) pa_nil)))))) pss_nil)
      (pss_cons (ps_set (i := 4) sc_w_all.nd rfl (Or.inl rfl) (pe_ix ix_list (pv 0) pe_int (fun _ _ => rfl)))
      (pss_one (ps_ret (pe_lst (pa_cons (ok_callR (oks_total T) (hr.mono (by decide)) rfl T.g_total (passE rfl rfl rfl rfl) (pa_cons (pv 1) (pa_cons (pv 3) (pa_cons (pv 4) (pa_cons (pv 2) pa_nil))))) (pa_cons (ok_callR (oks_least T) (hr.mono (by decide)) rfl T.g_least (passE rfl rfl rfl rfl) (pa_cons (pv 1) (pa_cons (pv 3) (pa_cons (pv 4) (pa_cons (pv 2) pa_nil))))) (pa_cons (ok_callR (oks_greatest T) (hr.mono (by decide)) rfl T.g_greatest (passE rfl rfl rfl rfl) (pa_cons (pv 1) (pa_cons (pv 3) (pa_cons (pv 4) (pa_cons (pv 2) pa_nil))))) pa_nil)))))))))))), ?_⟩
    have hl := hp.length
    match xs, qs, hp, hl, h1, h4 with
    | [], _, .nil, _, h1, _ => exact absurd h1 (by decide)
    | [x1], [q1], hp, _, _, _ =>
      refine ⟨_, rfl, D, _, 0, _, rfl, rfl, SqL.of hD, rfl, _, rfl, _, rfl, D, _, -1, _, rfl, rfl, SqL.of hD, rfl, _, _, rfl, ?_⟩
      refine ⟨_, rfl, D, _, rfl, .inl (SqL.of hD), rfl, _, rfl, ?_⟩
      refine iteT ?_
      refine all3 (vs := [x1]) (fun H' Q z => ?_) nofun (by simp) hp hb k
      exact ⟨_, rfl, z⟩
    | [x1, x2], [q1, q2], hp, _, _, _ =>
      refine ⟨_, rfl, D, _, 0, _, rfl, rfl, SqL.of hD, rfl, _, rfl, _, rfl, D, _, -1, _, rfl, rfl, SqL.of hD, rfl, _, _, rfl, ?_⟩
      refine ⟨_, rfl, D, _, rfl, .inl (SqL.of hD), rfl, _, rfl, ?_⟩
      refine iteF ⟨_, rfl, D, _, rfl, .inl (SqL.of hD), rfl, _, rfl, ?_⟩
      refine iteT ?_
      refine all3 (vs := [x1, x2]) (fun H' Q z => ?_) nofun (by simp) hp hb k
      exact ⟨_, rfl, _, rfl, z⟩
    | [x1, x2, x3], [q1, q2, q3], hp, _, _, _ =>
      refine ⟨_, rfl, D, _, 0, _, rfl, rfl, SqL.of hD, rfl, _, rfl, _, rfl, D, _, -1, _, rfl, rfl, SqL.of hD, rfl, _, _, rfl, ?_⟩
      refine ⟨_, rfl, D, _, rfl, .inl (SqL.of hD), rfl, _, rfl, ?_⟩
      refine iteF ⟨_, rfl, D, _, rfl, .inl (SqL.of hD), rfl, _, rfl, ?_⟩
      refine iteF ⟨_, rfl, D, _, 1, _, rfl, rfl, SqL.of hD, rfl, ?_⟩
      refine ⟨_, rfl, D, _, rfl, .inl (SqL.of hD), rfl, _, rfl, ?_⟩
      refine iteT ?_
      refine all3 (vs := [x1, x2, x3]) (fun H' Q z => ?_) nofun (by simp) hp hb k
      exact ⟨_, rfl, _, rfl, _, rfl, z⟩
    | [x1, x2, x3, x4], [q1, q2, q3, q4], hp, _, _, _ =>
      refine ⟨_, rfl, D, _, 0, _, rfl, rfl, SqL.of hD, rfl, _, rfl, _, rfl, D, _, -1, _, rfl, rfl, SqL.of hD, rfl, _, _, rfl, ?_⟩
      refine ⟨_, rfl, D, _, rfl, .inl (SqL.of hD), rfl, _, rfl, ?_⟩
      refine iteF ⟨_, rfl, D, _, rfl, .inl (SqL.of hD), rfl, _, rfl, ?_⟩
      refine iteF ⟨_, rfl, D, _, 1, _, rfl, rfl, SqL.of hD, rfl, ?_⟩
      refine ⟨_, rfl, D, _, rfl, .inl (SqL.of hD), rfl, _, rfl, ?_⟩
      refine iteF ⟨_, rfl, D, _, 2, _, rfl, rfl, SqL.of hD, rfl, ?_⟩
      show tLst (tCons (tCallR (spAll (spTot K)) E (tCons (tVar 1) (tCons (tVar 3) (tCons (tVar 4) (tCons (tVar 2) tNil))))) (tCons (tCallR (spAll (spEx (-1) K)) E (tCons (tVar 1) (tCons (tVar 3) (tCons (tVar 4) (tCons (tVar 2) tNil))))) (tCons (tCallR (spAll (spEx 1 K)) E (tCons (tVar 1) (tCons (tVar 3) (tCons (tVar 4) (tCons (tVar 2) tNil))))) tNil))) [some (.ref D), some x1, some x4, some x2, some x3] H Q
      refine all3 (vs := [x1, x2, x3, x4]) (fun H' Q z => ?_) nofun (by simp) hp hb k
      exact ⟨_, rfl, _, rfl, _, rfl, _, rfl, z⟩
    | x1 :: x2 :: x3 :: x4 :: x5 :: xs, qs, _, hl, _, h4 => exact absurd h4 (by simp at hl; omega)
end
end K02

set_option maxHeartbeats 1000000
namespace K02
open PySem PySem.Spec PyProof.Rows L2 AT
/-- at v stands a pair of the value q -/
def PrQ (H : Hp) (v : V) (q : Rat) : Prop := ∃ (t : Addr) (n d : Int), v = .ref t ∧ H t = some (.tup [.int n, .int d]) ∧ GoodP n d ∧ q = Rat.divInt n d
theorem PrQ.up {H H' : Hp} {v : V} {q : Rat} (h : PrQ H v q) (s : Same H H') : PrQ H' v q := by
  obtain ⟨t, n, d, e, h, g, eq⟩ := h
  exact ⟨t, n, d, e, s _ _ h, g, eq⟩
theorem PrQ.bits {H : Hp} {v : V} {q : Rat} (h : PrQ H v q) : Bits 128 q := by
  obtain ⟨t, n, d, e, h, g, rfl⟩ := h
  exact g.bits
theorem prd_mem {α β : Type} {F : α → β → Prop} : ∀ {xs : List α} {ys : List β}, Paired F xs ys → ∀ y ∈ ys, ∃ x ∈ xs, F x y
  | _, _, .nil, y, h => by cases h
  | _, _, .cons a r, y, h => by
    rcases List.mem_cons.mp h with rfl | h
    · exact ⟨_, List.mem_cons_self .., a⟩
    · obtain ⟨x, hx, hf⟩ := prd_mem r y h
      exact ⟨x, List.mem_cons_of_mem _ hx, hf⟩
theorem some_bits {i : Nat} {n d a b : Int} (hn : n.natAbs < 2 ^ (110 * i + 1)) (hd : d.natAbs < 2 ^ (60 * i + 1)) (g : GoodP a b) : (n * b + a * d).natAbs < 2 ^ (110 * (i + 1) + 1) ∧ (d * b).natAbs < 2 ^ (60 * (i + 1) + 1) := by
  constructor
  · have h1 := mul_bits hn g.bot
    have h2 := mul_bits g.top hd
    have h3 := Int.natAbs_add_le (n * b) (a * d)
    have e1 : 2 ^ (110 * i + 1 + 60) ≤ 2 ^ (110 * i + 109) := Nat.pow_le_pow_right (by decide) (by omega)
    have e2 : 2 ^ (100 + (60 * i + 1)) ≤ 2 ^ (110 * i + 109) := Nat.pow_le_pow_right (by decide) (by omega)
    have e3 : 2 ^ (110 * (i + 1) + 1) = 2 * 2 ^ (110 * i + 110) := by rw [← Nat.pow_succ']; congr 1
    have e4 : 2 ^ (110 * i + 110) = 2 * 2 ^ (110 * i + 109) := by rw [← Nat.pow_succ']
    omega
  · have h1 := mul_bits hd g.bot
    exact Nat.lt_of_lt_of_le h1 (Nat.pow_le_pow_right (by decide) (by omega))
theorem ext_start (sg : Int) (h0 : sg ≠ 0) (q : Rat) (qs : List Rat) : (q :: qs).foldl (fun f i => if cmpQ i f = sg then i else f) q = extQ sg (q :: qs) := by
  have e : cmpQ q q = 0 := cmpQ_zero.mpr rfl
  rw [List.foldl_cons, e, if_neg (fun z => h0 z.symm)]
  rfl
section
variable {P : Program} {w : World} {K : PySem.W.Frag} {mg : Str → Option Value} {base : Heap}
def spMany (K : PySem.W.Frag) : Sp := fun vs H Q _ => ∃ (D B : Addr) (xs ps : List V) (qs : List Rat), vs = [.ref D, .ref B] ∧ H D = some (.lst xs) ∧ Paired (RQ K H) xs qs ∧ H B = some (.lst ps) ∧ Paired (PrQ H) ps qs ∧ 1 ≤ qs.length ∧ qs.length ≤ 4 ∧ ∀ H', Same H H' → Q (.bl true) H'
theorem sc_w_many_right : FnScope ["_law_amounts", "_law_pairs", "_law_some", "_law_top", "_law_bottom", "_law_low", "_law_high", "_law_pair_here", "_law_found", "_law_one", "_law_due"] ["_law_amounts", "_law_pairs"] (defScope s_w_many_right) := ⟨rfl, rfl, rfl, by decide +kernel, rfl, by decide +kernel, by decide +kernel⟩
theorem ok_w_many_right (T : Tx K mg base) : Ok P w K mg base 10 (d_w_many_right.loc K) ["_law_amounts", "_law_pairs"] (spMany K) := by
  refine mk_ok (k := 9) T.f_w_many_right sc_w_many_right (fun _ _ _ _ _ _ us hl => match us, hl with | [_, _], _ => rfl) (fun vs H Q E h => ?_) (fun cdv A outer s H vs Q E hr h => ?_)
  · obtain ⟨D, B, xs, ps, qs, rfl, _⟩ := h
    rfl
  · obtain ⟨D, B, xs, ps, qs, rfl, hD, hx, hB, hp, h1, h4, k⟩ := h
    refine ⟨_, (pss_cons (ps_set (i := 2) sc_w_many_right.nd rfl (Or.inl rfl) (pe_tup (pa_cons pe_int (pa_cons pe_int pa_nil))))
      (pss_cons (ps_for (passes_of rfl) rfl (pi_list (pv 1)) (pg_tup rfl (pgs_cons (pg_name (i := 3) sc_w_many_right.nd rfl (Or.inl rfl)) (pgs_cons (pg_name (i := 4) sc_w_many_right.nd rfl (Or.inl rfl)) pgs_nil))) (pss_one (ps_set (i := 2) sc_w_many_right.nd rfl (Or.inl rfl) (pe_tup (pa_cons (pe_op op_add (pe_op op_mulW (pe_ix ix_tup (pv 2) pe_int (fun _ _ => rfl)) (pv 4)) (pe_op op_mulW (pv 3) (pe_ix ix_tup (pv 2) pe_int (fun _ _ => rfl)))) (pa_cons (pe_op op_mulW (pe_ix ix_tup (pv 2) pe_int (fun _ _ => rfl)) (pv 4)) pa_nil))))))
      (pss_cons (ps_par (by rfl) sc_w_many_right.nd (i := 5) (j := 6) rfl rfl (by decide) rfl rfl (pa_cons (pe_ix ix_list (pv 1) pe_int (fun _ _ => rfl)) (pa_cons (pe_ix ix_list (pv 1) pe_int (fun _ _ => rfl)) pa_nil)) (by rfl))
      (pss_cons (ps_for (passes_of rfl) rfl (pi_list (pv 1)) (pg_name (i := 7) sc_w_many_right.nd rfl (Or.inl rfl)) (pss_cons (ps_set (i := 5) sc_w_many_right.nd rfl (Or.inl rfl) (pe_ifExp (pt_cmpR op_lt (ok_call (ok_w_sign T) (hr.mono (by decide)) rfl T.g_w_sign passL (pa_cons (pv 7) (pa_cons (pv 5) pa_nil))) pe_int (nomark _)) (pv 7) (pv 5)))
      (pss_one (ps_set (i := 6) sc_w_many_right.nd rfl (Or.inl rfl) (pe_ifExp (pt_cmpR op_gt (ok_call (ok_w_sign T) (hr.mono (by decide)) rfl T.g_w_sign passL (pa_cons (pv 7) (pa_cons (pv 6) pa_nil))) pe_int (nomark _)) (pv 7) (pv 6))))))
      (pss_cons (ps_set (i := 8) sc_w_many_right.nd rfl (Or.inl rfl) (ok_call (ok_w_all T) (hr.mono (by decide)) rfl T.g_w_all passL (pa_cons (pv 0) pa_nil)))
      (pss_one (ps_ret (pe_cmpR (show OpR _ _ (rEqE K) from op_eqE hr.units) (pe_lc (own := [("_law_one", 9), ("_law_due", 10)]) (g := (gTup K 2 (gCons (gName 9) (gCons (gName 10) gNil)))) (by rfl) sc_w_many_right.nd (RZ.pi_zipA (by rfl) T.b_zip (pa_cons (pv 8) (pa_cons (pe_lst (pa_cons (pv 2) (pa_cons (pv 5) (pa_cons (pv 6) pa_nil)))) pa_nil))) (blkOk_by (own := [("_law_one", 9), ("_law_due", 10)]) (N := ["_law_amounts", "_law_pairs", "_law_some", "_law_top", "_law_bottom", "_law_low", "_law_high", "_law_pair_here", "_law_found", "_law_one", "_law_due"]) (sc := defScope s_w_many_right) (by decide +kernel)) (fun _ _ _ _ _ => (pg_tup rfl (pgs_cons (pg_name (i := 9) sc_w_many_right.nd rfl (Or.inl rfl)) (pgs_cons (pg_name (i := 10) sc_w_many_right.nd rfl (Or.inl rfl)) pgs_nil)))) (fun _ _ _ _ _ => (pts_one (pt_not (pt_val (ok_call (ok_w_is_pair T) (hr.mono (by decide)) rfl T.g_w_is_pair passL (pa_cons (pv 9) (pa_cons (pv 10) pa_nil))))))) (fun _ _ _ _ _ => pe_int)) (pe_lst pa_nil) (nomark _))))))))), ?_⟩
    have hsl : sizeLine = 16777216 := sizeLine_eq
    have hb : ∀ q ∈ qs, Bits 128 q := fun q hq => by
      obtain ⟨x, _, h⟩ := prd_mem hp q hq
      exact h.bits
    have hpl := hp.length
    refine ⟨(by show 2 ≤ sizeLine; decide), fun t0 g0 => ?_⟩
    have s0 := AT.Same.up (o := .tup [.int 0, .int 1]) g0
    have h0 : upd H t0 (.tup [.int 0, .int 1]) t0 = some (.tup [.int 0, .int 1]) := upd_same
    generalize upd H t0 (.tup [.int 0, .int 1]) = H0 at s0 h0 ⊢
    have hB0 := s0 _ _ hB
    refine ⟨_, rfl, B, rfl, ⟨_, SqL.of hB0⟩, for_list (xs := ps) (fun i σ' H' => ∃ o3 o4 t n d, σ' = ([some (.ref D), some (.ref B), some (.ref t), o3, o4, none, none, none, none, none, none] : L2.St) ∧ Same H0 H' ∧ H' t = some (.tup [.int n, .int d]) ∧ d ≠ 0 ∧ n.natAbs < 2 ^ (110 * i + 1) ∧ d.natAbs < 2 ^ (60 * i + 1) ∧ sumQ (qs.take i) = Rat.divInt n d)
      ⟨_, _, t0, 0, 1, rfl, Same.refl _, h0, by decide, by decide, by decide, rfl⟩ (fun i σ' H' _ hP => by obtain ⟨_, _, _, _, _, _, s, _⟩ := hP; exact SqL.of (s _ _ hB0)) (fun i v σ' H' hvi hP => ?_) (fun σ' H' hP => ?_)⟩
    · obtain ⟨o3, o4, t, n, d, rfl, sm, ht, hd0, hn, hd, hs⟩ := hP
      have hi : i < ps.length := (List.getElem?_eq_some_iff.mp hvi).1
      obtain ⟨q, hqi, hv⟩ := prd_get hp hvi
      obtain ⟨u, a, b, rfl, hu, g, rfl⟩ := hv.up (s0.trans sm)
      have nb : n.natAbs < 2 ^ 1000 := Nat.lt_of_lt_of_le hn (Nat.pow_le_pow_right (by decide) (by omega))
      have db : d.natAbs < 2 ^ 1000 := Nat.lt_of_lt_of_le hd (Nat.pow_le_pow_right (by decide) (by omega))
      refine ⟨u, _, rfl, SqT.of hu, rfl, _, _, rfl, _, _, rfl, rfl, ?_⟩
      refine ⟨_, rfl, t, _, 0, _, rfl, rfl, SqT.of ht, rfl, _, rfl, _, _, rfl, rfl, wide_mul (a := 1000) (b := 60) nb g.bot (by decide) (by decide) (by decide), _, rfl, _, rfl, t, _, 1, _, rfl, rfl, SqT.of ht, rfl, _, _, rfl, rfl, wide_mul (a := 100) (b := 1000) g.top db (by decide) (by decide) (by decide), _, _, rfl, rfl, ?_⟩
      refine ⟨_, rfl, t, _, 1, _, rfl, rfl, SqT.of ht, rfl, _, rfl, _, _, rfl, rfl, wide_mul (a := 1000) (b := 60) db g.bot (by decide) (by decide) (by decide), (by show 2 ≤ sizeLine; decide), fun r gr => ?_⟩
      have bb := some_bits hn hd g
      refine ⟨_, _, r, _, _, rfl, sm.trans (AT.Same.up gr), upd_same, Int.mul_ne_zero hd0 g.ne, bb.1, bb.2, ?_⟩
      rw [List.take_add_one, hqi]
      show sumQ (qs.take i ++ [Rat.divInt a b]) = _
      unfold sumQ at hs ⊢
      rw [foldl_snoc, hs, add_pq hd0 g.ne]
    · obtain ⟨o3, o4, t, n, d, rfl, s1, ht, hd0, hn, hd, hs⟩ := hP
      rw [hpl, List.take_length] at hs
      have nb : n.natAbs < 2 ^ 3000 := Nat.lt_of_lt_of_le hn (Nat.pow_le_pow_right (by decide) (by omega))
      have db : d.natAbs < 2 ^ 3000 := Nat.lt_of_lt_of_le hd (Nat.pow_le_pow_right (by decide) (by omega))
      have s01 := s0.trans s1
      have hB1 := s01 _ _ hB
      have hp1 : Paired (PrQ H') ps qs := Paired.mapP hp fun _ _ z => z.up s01
      have ex : ∃ u0 ps0 q0 qs0 n0 d0, ps = V.ref u0 :: ps0 ∧ qs = q0 :: qs0 ∧ H' u0 = some (.tup [.int n0, .int d0]) ∧ GoodP n0 d0 ∧ q0 = Rat.divInt n0 d0 := by
        cases hp1 with
        | nil => exact absurd h1 (by decide)
        | cons a r =>
          obtain ⟨u0, n0, d0, rfl, hu0, g00, eq0⟩ := a
          exact ⟨u0, _, _, _, n0, d0, rfl, rfl, hu0, g00, eq0⟩
      obtain ⟨u0, ps0, q0, qs0, n0, d0, rfl, rfl, hu0, g00, eq0⟩ := ex
      have at0 : atI (V.ref u0 :: ps0) ((0 : Nat) : Int) = some (V.ref u0) := atI_nat rfl
      refine ⟨_, rfl, B, _, 0, _, rfl, rfl, SqL.of hB1, at0, _, rfl, B, _, 0, _, rfl, rfl, SqL.of hB1, at0, _, _, rfl, ?_⟩
      refine ⟨_, rfl, B, rfl, ⟨_, SqL.of hB1⟩, for_list (xs := V.ref u0 :: ps0) (fun i σ' Hi => ∃ o7 t1 t2 n1 d1 n2 d2, σ' = ([some (.ref D), some (.ref B), some (.ref t), o3, o4, some (.ref t1), some (.ref t2), o7, none, none, none] : L2.St) ∧ Hi = H' ∧ H' t1 = some (.tup [.int n1, .int d1]) ∧ H' t2 = some (.tup [.int n2, .int d2]) ∧ GoodP n1 d1 ∧ GoodP n2 d2 ∧
        Rat.divInt n1 d1 = ((q0 :: qs0).take i).foldl (fun f i => if cmpQ i f = -1 then i else f) q0 ∧ Rat.divInt n2 d2 = ((q0 :: qs0).take i).foldl (fun f i => if cmpQ i f = 1 then i else f) q0)
        ⟨_, u0, u0, n0, d0, n0, d0, rfl, rfl, hu0, hu0, g00, g00, eq0.symm, eq0.symm⟩ (fun i σ' Hi _ hP => by obtain ⟨_, _, _, _, _, _, _, _, e, _⟩ := hP; subst e; exact SqL.of hB1) (fun i v σ' Hi hvi hP => ?_) (fun σ' Hi hP => ?_)⟩
      · obtain ⟨o7, t1, t2, n1, d1, n2, d2, rfl, rfl, ht1, ht2, g1, g2, e1, e2⟩ := hP
        obtain ⟨q, hqi, hv⟩ := prd_get hp1 hvi
        obtain ⟨u, a, b, rfl, hu, g, rfl⟩ := hv
        have st : ∀ sg : Int, ((q0 :: qs0).take (i + 1)).foldl (fun f i => if cmpQ i f = sg then i else f) q0 = if cmpQ (Rat.divInt a b) (((q0 :: qs0).take i).foldl (fun f i => if cmpQ i f = sg then i else f) q0) = sg then Rat.divInt a b else ((q0 :: qs0).take i).foldl (fun f i => if cmpQ i f = sg then i else f) q0 := fun sg => by
          rw [List.take_add_one, hqi]
          show ((q0 :: qs0).take i ++ [Rat.divInt a b]).foldl _ q0 = _
          rw [foldl_snoc]
        have neg : (sgnP a b n1 d1 < 0) ↔ cmpQ (Rat.divInt a b) (Rat.divInt n1 d1) = -1 := by
          unfold sgnP cmpQ
          split <;> split <;> decide
        have pos : (sgnP a b n2 d2 > 0) ↔ cmpQ (Rat.divInt a b) (Rat.divInt n2 d2) = 1 := by
          unfold sgnP cmpQ
          split <;> split <;> decide
        -- the high one, whatever the low one is
        have high : ∀ (w1 : Addr) (m1 c1 : Int), Hi w1 = some (.tup [.int m1, .int c1]) → GoodP m1 c1 → Rat.divInt m1 c1 = ((q0 :: qs0).take (i + 1)).foldl (fun f i => if cmpQ i f = -1 then i else f) q0 →
            ∃ w2 m2 c2, (if decide (sgnP a b n2 d2 > 0) = true then w2 = u else w2 = t2) ∧ Hi w2 = some (.tup [.int m2, .int c2]) ∧ GoodP m2 c2 ∧ Rat.divInt m2 c2 = ((q0 :: qs0).take (i + 1)).foldl (fun f i => if cmpQ i f = 1 then i else f) q0 := fun w1 m1 c1 _ _ _ => by
          by_cases c : sgnP a b n2 d2 > 0
          · refine ⟨u, a, b, by rw [decide_eq_true c]; rfl, hu, g, ?_⟩
            rw [st 1, ← e2, if_pos (pos.mp c)]
          · refine ⟨t2, n2, d2, by rw [decide_eq_false c]; rfl, ht2, g2, ?_⟩
            rw [st 1, ← e2, if_neg (fun z => c (pos.mpr z))]
        refine ⟨_, rfl, _, rfl, u, t1, a, b, n1, d1, rfl, hu, ht1, g, g1, _, _, rfl, rfl, _, rfl, ?_⟩
        by_cases c : sgnP a b n1 d1 < 0
        · rw [decide_eq_true c]
          refine iteT ⟨_, rfl, ?_⟩
          refine ⟨_, rfl, _, rfl, u, t2, a, b, n2, d2, rfl, hu, ht2, g, g2, _, _, rfl, rfl, _, rfl, ?_⟩
          have e1' : Rat.divInt a b = ((q0 :: qs0).take (i + 1)).foldl (fun f i => if cmpQ i f = -1 then i else f) q0 := by
            rw [st (-1), ← e1, if_pos (neg.mp c)]
          by_cases c2 : sgnP a b n2 d2 > 0
          · rw [decide_eq_true c2]
            refine iteT ⟨_, rfl, _, u, u, a, b, a, b, rfl, rfl, hu, hu, g, g, e1', ?_⟩
            rw [st 1, ← e2, if_pos (pos.mp c2)]
          · rw [decide_eq_false c2]
            refine iteF ⟨_, rfl, _, u, t2, a, b, n2, d2, rfl, rfl, hu, ht2, g, g2, e1', ?_⟩
            rw [st 1, ← e2, if_neg (fun z => c2 (pos.mpr z))]
        · rw [decide_eq_false c]
          refine iteF ⟨_, rfl, ?_⟩
          refine ⟨_, rfl, _, rfl, u, t2, a, b, n2, d2, rfl, hu, ht2, g, g2, _, _, rfl, rfl, _, rfl, ?_⟩
          have e1' : Rat.divInt n1 d1 = ((q0 :: qs0).take (i + 1)).foldl (fun f i => if cmpQ i f = -1 then i else f) q0 := by
            rw [st (-1), ← e1, if_neg (fun z => c (neg.mpr z))]
          by_cases c2 : sgnP a b n2 d2 > 0
          · rw [decide_eq_true c2]
            refine iteT ⟨_, rfl, _, t1, u, n1, d1, a, b, rfl, rfl, ht1, hu, g1, g, e1', ?_⟩
            rw [st 1, ← e2, if_pos (pos.mp c2)]
          · rw [decide_eq_false c2]
            refine iteF ⟨_, rfl, _, t1, t2, n1, d1, n2, d2, rfl, rfl, ht1, ht2, g1, g2, e1', ?_⟩
            rw [st 1, ← e2, if_neg (fun z => c2 (pos.mpr z))]
      · obtain ⟨o7, t1, t2, n1, d1, n2, d2, rfl, rfl, ht1, ht2, g1, g2, e1, e2⟩ := hP
        rw [hp1.length, List.take_length, ext_start _ (by decide)] at e1 e2
        refine ⟨_, rfl, D, xs, q0 :: qs0, rfl, s01 _ _ hD, prd_rq hx s01, h1, h4, hb, fun R H2 s2 h3 => ?_⟩
        obtain ⟨r1, r2, r3, hR, hr1, hr2, hr3⟩ := h3
        refine ⟨_, rfl, _, rfl, _, rfl, _, rfl, (by show 3 ≤ sizeLine; decide), fun Z gZ => ?_⟩
        have sZ := AT.Same.up (o := .lst [.ref t, .ref t1, .ref t2]) gZ
        have hZ : upd H2 Z (.lst [.ref t, .ref t1, .ref t2]) Z = some (.lst [.ref t, .ref t1, .ref t2]) := upd_same
        generalize upd H2 Z (.lst [.ref t, .ref t1, .ref t2]) = H3 at sZ hZ ⊢
        have hR3 := sZ _ _ hR
        have s23 := s2.trans sZ
        have all : ∀ {i : Nat} {x y : V}, ([.ref r1, .ref r2, .ref r3] : List V)[i]? = some x → ([.ref t, .ref t1, .ref t2] : List V)[i]? = some y → ∃ a b q n d, x = .ref a ∧ y = .ref b ∧ IsQ K H3 a q ∧ Bits 3000 q ∧ H3 b = some (.tup [.int n, .int d]) ∧ d ≠ 0 ∧ n.natAbs < 2 ^ 3000 ∧ d.natAbs < 2 ^ 3000 ∧ q = Rat.divInt n d := fun {i x y} hx hy => match i, hx, hy with
          | 0, hx, hy => by
            cases hx
            cases hy
            exact ⟨_, _, _, n, d, rfl, rfl, hr1.up sZ, sumQ_bits hb (by omega), s23 _ _ ht, hd0, nb, db, hs⟩
          | 1, hx, hy => by
            cases hx
            cases hy
            exact ⟨_, _, _, n1, d1, rfl, rfl, hr2.up sZ, by rw [← e1]; exact g1.bits.mono (by decide), s23 _ _ ht1, g1.ne, Nat.lt_trans g1.top (by decide), Nat.lt_trans g1.bot (by decide), e1.symm⟩
          | 2, hx, hy => by
            cases hx
            cases hy
            exact ⟨_, _, _, n2, d2, rfl, rfl, hr3.up sZ, by rw [← e2]; exact g2.bits.mono (by decide), s23 _ _ ht2, g2.ne, Nat.lt_trans g2.top (by decide), Nat.lt_trans g2.bot (by decide), e2.symm⟩
          | m + 3, hx, _ => by cases hx
        refine ⟨R, Z, _, _, rfl, .inl ⟨SqL.of hR3, SqL.of hZ, fun C gC => ?_⟩⟩
        refine lc_it (walk_zip (n := 3) rfl) (fun j Hj => Same H3 Hj ∧ Hj C = some (.lst [])) ⟨AT.Same.up gC, upd_same⟩ (fun j Hj _ hP => ⟨SqL.of (hP.1 _ _ hR3), SqL.of (hP.1 _ _ hZ)⟩) (fun j x Hj H9 hj hP hY => ?_) (fun Hj hP => ?_)
        · obtain ⟨sj, hC⟩ := hP
          obtain ⟨Tp, x0, y0, rfl, hTp, rfl, hx0, hy0⟩ := hY
          obtain ⟨a, b, q, n', d', rfl, rfl, hq, bq, hb', hd', nn, dd, eq⟩ := all hx0 hy0
          have sT := AT.Same.up (o := .tup [.ref a, .ref b]) hTp
          have s3 := sj.trans sT
          refine ⟨Tp, _, rfl, SqT.of upd_same, rfl, _, _, rfl, _, _, rfl, rfl, rfl, ?_⟩
          refine ⟨_, rfl, _, rfl, a, b, q, n', d', rfl, hq.up s3, bq, s3 _ _ hb', hd', nn, dd, _, rfl, ?_⟩
          rw [decide_eq_true eq]
          exact iteF ⟨s3, sT _ _ hC⟩
        · obtain ⟨sj, hC⟩ := hP
          refine ⟨(by show 0 ≤ sizeLine; decide), fun q gq => ⟨[], ⟨C, q, rfl, rfl, SqL.of (AT.Same.up gq _ _ hC), SqL.of upd_same⟩, ?_⟩⟩
          exact k _ (s01.trans (s23.trans (sj.trans (AT.Same.up gq))))
end
end K02

set_option maxHeartbeats 1000000
namespace K02
open PySem PySem.Spec PyProof.Rows L2 AT
section
variable {P : Program} {w : World} {K : PySem.W.Frag} {mg : Str → Option Value} {base : Heap}
def EmpL (H : Hp) (F : Addr) (i : Nat) : Prop := ∃ acc, H F = some (.lst acc) ∧ acc.length = i ∧ ∀ y ∈ acc, ∃ q, y = .ref q ∧ q ≠ F ∧ H q = some (.tup [])
theorem EmpL.add {H H' : Hp} {F q : Addr} {i : Nat} {acc : List V} (h : H F = some (.lst acc)) (hl : acc.length = i) (ha : ∀ y ∈ acc, ∃ q, y = .ref q ∧ q ≠ F ∧ H q = some (.tup [])) (s : Same H H') (hq : H' q = some (.tup [])) (nq : q ≠ F) : EmpL (upd H' F (.lst (acc ++ [.ref q]))) F (i + 1) := by
  refine ⟨_, upd_same, by simp [hl], fun y hy => ?_⟩
  rcases List.mem_append.mp hy with hy | hy
  · obtain ⟨p, e, n, h⟩ := ha y hy
    exact ⟨p, e, n, by rw [upd_ne n]; exact s _ _ h⟩
  · simp only [List.mem_singleton] at hy
    exact ⟨q, hy, nq, by rw [upd_ne nq]; exact hq⟩
def spNone : Sp := fun vs H Q _ => vs = [] ∧ ∀ H', Same H H' → Q (.bl true) H'
theorem sc_w_none_right : FnScope ["_law_found", "_law_at", "e"] [] (defScope s_w_none_right) := ⟨rfl, rfl, rfl, by decide +kernel, rfl, by decide +kernel, by decide +kernel⟩
theorem ok_w_none_right (T : Tx K mg base) : OkG P w K mg base 13 (d_w_none_right.loc K) [] spNone := by
  refine mk_okG (k := 12) T.f_w_none_right sc_w_none_right (fun _ _ _ _ _ _ us hl => match us, hl with | [], _ => rfl) (fun vs H Q E h => ?_) (fun cdv A outer s H vs Q E hgd hr h => ?_)
  · obtain ⟨rfl, _⟩ := h
    rfl
  · obtain ⟨rfl, k⟩ := h
    refine ⟨_, (pss_cons (ps_set (i := 0) sc_w_none_right.nd rfl (Or.inl rfl) (pe_lst pa_nil))
      (pss_cons (ps_for (passes_of rfl) rfl (pi_range1 (by rfl) T.b_range (pa_cons pe_int pa_nil)) (pg_name (i := 1) sc_w_none_right.nd rfl (Or.inl rfl)) (pss_cons (ps_try_mas (tb := _) rfl rfl takes0 (fun W pn xe tk _ => (pss_one (ps_expr (pe_bmK (K := K) rfl PySem.F.plainAttrs_list PySem.F.slot_list_append PySem.F.type_list_append mt_append (pv 0) (pa_cons (pe_ifExp (pt_cmpR op_eq (pv 1) pe_int (nomark _)) (ok_callRS0 (oks_least T) (hr.mono (by decide)) rfl T.g_least tk) (ok_callRS0 (oks_greatest T) (hr.mono (by decide)) rfl T.g_greatest tk)) pa_nil))))) (.cons sc_w_none_right.nd (i := 2) rfl rfl ⟨rfl, by decide, .inl T.g_InvalidPart⟩ (fun a oe cls d pn hz hf => (pss_one (ps_expr (pe_bmK (K := K) rfl PySem.F.plainAttrs_list PySem.F.slot_list_append PySem.F.type_list_append mt_append (pv 0) (pa_cons (pe_xf T.xc_InvalidPart.xf T.xc_InvalidPart.no hz hf (pv 2)) pa_nil))))) .nil)) pss_nil))
      (pss_one (ps_ret (pe_and (pe_cmpR op_eq (pe_callB (call_repr hgd hr T.sys) (by rfl) T.b_repr (by decide +kernel) (pa_cons (pv 0) pa_nil)) (pe_callB (call_repr hgd hr T.sys) (by rfl) T.b_repr (by decide +kernel) (pa_cons (pe_lst (pa_cons (pe_tup pa_nil) (pa_cons (pe_tup pa_nil) pa_nil))) pa_nil)) (nomark _)) (pe_one (ok_call (ok_w_is_pair T) (hr.mono (by decide)) rfl T.g_w_is_pair passL (pa_cons (ok_callR0 (oks_total T) (hr.mono (by decide)) rfl T.g_total (passE rfl rfl rfl rfl)) (pa_cons (pe_tup (pa_cons pe_int (pa_cons pe_int pa_nil))) pa_nil))))))))), ?_⟩
    have hsl : sizeLine = 16777216 := sizeLine_eq
    refine ⟨(by show 0 ≤ sizeLine; decide), fun F gF => ?_⟩
    refine ⟨2, rfl, by decide, by decide, for_range (lo := 0) (n := 2) (fun i σ' H' => (∃ o1 o2, σ' = ([some (.ref F), o1, o2] : L2.St)) ∧ Same H H' ∧ EmpL H' F i) ⟨⟨_, _, rfl⟩, AT.Same.up gF, [], upd_same, rfl, nofun⟩ (fun i σ' H' hi hP => ?_) (fun σ' H' hP => ?_)⟩
    · obtain ⟨⟨o1, o2, rfl⟩, sm, acc, hF, hl, ha⟩ := hP
      refine ⟨_, rfl, .inl ⟨rfl, _, SqL.of hF⟩, _, rfl, rfl, _, rfl, ?_⟩
      by_cases c : V.int (0 + (i : Int)) = V.int 0
      · rw [decide_eq_true c]
        refine iteT ⟨(by show 0 ≤ sizeLine; decide), fun p gp => ?_⟩
        refine ⟨p, rfl, p, [], -1, rfl, upd_same, (by show 0 ≤ 20; decide), nofun, .inl ⟨rfl, fun H2 d s2 hd hx => ⟨true, T.ex_InvalidPart_InvalidPart, fun _ a2 ha2 => ?_, nofun⟩⟩⟩
        have sp := (AT.Same.up (o := .tup []) gp).trans s2
        have nF : p ≠ F := fun e => by rw [e, hF] at gp; cases gp
        have hF2 := sp _ _ hF
        refine ⟨_, rfl, .inl ⟨rfl, _, SqL.of hF2⟩, _, rfl, rfl, rfl, d, _, _, rfl, hx, rfl, F, _, _, rfl, rfl, hF2, by omega, ?_⟩
        exact ⟨⟨_, _, rfl⟩, AT.Same.new (sm.trans sp) gF, EmpL.add hF hl ha sp (s2 _ _ upd_same) nF⟩
      · rw [decide_eq_false c]
        refine iteF ⟨(by show 0 ≤ sizeLine; decide), fun p gp => ?_⟩
        refine ⟨p, rfl, p, [], 1, rfl, upd_same, (by show 0 ≤ 20; decide), nofun, .inl ⟨rfl, fun H2 d s2 hd hx => ⟨true, T.ex_InvalidPart_InvalidPart, fun _ a2 ha2 => ?_, nofun⟩⟩⟩
        have sp := (AT.Same.up (o := .tup []) gp).trans s2
        have nF : p ≠ F := fun e => by rw [e, hF] at gp; cases gp
        have hF2 := sp _ _ hF
        refine ⟨_, rfl, .inl ⟨rfl, _, SqL.of hF2⟩, _, rfl, rfl, rfl, d, _, _, rfl, hx, rfl, F, _, _, rfl, rfl, hF2, by omega, ?_⟩
        exact ⟨⟨_, _, rfl⟩, AT.Same.new (sm.trans sp) gF, EmpL.add hF hl ha sp (s2 _ _ upd_same) nF⟩
    · obtain ⟨⟨o1, o2, rfl⟩, sm, acc, hF, hl, ha⟩ := hP
      have hd : ∃ x y : Addr, acc = [.ref x, .ref y] ∧ H' x = some (.tup []) ∧ H' y = some (.tup []) := by
        match acc, hl, ha with
        | [u, v], _, ha =>
          obtain ⟨x, rfl, _, hx⟩ := ha u (by simp)
          obtain ⟨y, rfl, _, hy⟩ := ha v (by simp)
          exact ⟨x, y, rfl, hx, hy⟩
      obtain ⟨x, y, rfl, hx, hy⟩ := hd
      have sh : ShOk (.list [.tuple [], .tuple []]) := ⟨by decide +kernel, by decide +kernel, by decide +kernel⟩
      refine ⟨_, rfl, _, .list [.tuple [], .tuple []], rfl, .lst (SqL.of hF) (.cons (.tup (SqT.of hx) .nil) (.cons (.tup (SqT.of hy) .nil) .nil)), sh.1, sh.2.1, sh.2.2, ?_⟩
      refine ⟨(by show 0 ≤ sizeLine; decide), fun a ga => ⟨(by show 0 ≤ sizeLine; decide), fun b gb => ⟨(by show 2 ≤ sizeLine; decide), fun c gc => ?_⟩⟩⟩
      have sb := AT.Same.up (o := .tup []) gb
      have sc := AT.Same.up (o := .lst [.ref a, .ref b]) gc
      refine ⟨_, .list [.tuple [], .tuple []], rfl, .lst (SqL.of upd_same) (.cons (.tup (SqT.of (sc _ _ (sb _ _ upd_same))) .nil) (.cons (.tup (SqT.of (sc _ _ upd_same)) .nil) .nil)), sh.1, sh.2.1, sh.2.2, rfl, _, rfl, ?_⟩
      rw [decide_eq_true rfl]
      have s3 := sm.trans ((AT.Same.up ga).trans (sb.trans sc))
      refine iteT ⟨(by show 0 ≤ sizeLine; decide), fun p gp => ⟨p, [], rfl, upd_same, (by show 0 ≤ 20; decide), nofun, .inl ⟨[], .nil, nofun, fun r H3 s4 hr3 => ⟨(by show 2 ≤ sizeLine; decide), fun q gq => ?_⟩⟩⟩⟩
      have sq := AT.Same.up (o := .tup [.int 0, .int 1]) gq
      refine ⟨r, q, _, 0, 1, rfl, hr3.up sq, bits_zero.mono (by decide), upd_same, by decide, by decide, by decide, ?_⟩
      rw [decide_eq_true (show sumQ [] = Rat.divInt 0 1 from rfl)]
      exact k _ (s3.trans ((AT.Same.up gp).trans (s4.trans sq)))
end
end K02

set_option maxHeartbeats 2000000
namespace K02
open PySem PySem.Spec PyProof.Rows L2 AT
theorem neg_pq {n d : Int} : -Rat.divInt n d = Rat.divInt (0 - n) d := by
  rw [Rat.neg_divInt]
  congr 1
  omega
theorem zero_div (d : Int) (hd : d ≠ 0) : Rat.divInt 0 d = 0 := by
  have : Rat.divInt 0 d = Rat.divInt 0 1 := (Rat.divInt_eq_divInt_iff hd (by decide)).mpr (by omega)
  exact this
theorem lt_zero {n d : Int} (hd : d ≠ 0) : Rat.divInt n d < 0 ↔ n * d < 0 := by
  have h := lt_pair (a := n) (b := d) (c := 0) (d := 1) hd (by decide)
  rw [show Rat.divInt 0 1 = 0 from rfl] at h
  rw [h]
  simp
theorem abs_pq {n d : Int} (hd : d ≠ 0) : (if Rat.divInt n d < 0 then -Rat.divInt n d else Rat.divInt n d) = Rat.divInt (if n < 0 then -n else n) (if d < 0 then -d else d) := by
  rcases Int.lt_or_gt_of_ne hd with g | g
  · rw [if_pos g]
    by_cases h : n < 0
    · have : ¬ n * d < 0 := by
        have := Int.mul_pos_of_neg_of_neg h g
        omega
      rw [if_neg (fun z => this ((lt_zero hd).mp z)), if_pos h, Rat.neg_divInt_neg]
    · rw [if_neg h]
      by_cases e : n = 0
      · subst e
        rw [if_neg (fun z => by have := (lt_zero hd).mp z; omega), zero_div d hd, zero_div (-d) (by omega)]
      · have : n * d < 0 := Int.mul_neg_of_pos_of_neg (by omega) g
        rw [if_pos ((lt_zero hd).mpr this), Rat.divInt_neg', Rat.neg_divInt]
  · rw [if_neg (show ¬ d < 0 by omega)]
    by_cases h : n < 0
    · have : n * d < 0 := Int.mul_neg_of_neg_of_pos h g
      rw [if_pos ((lt_zero hd).mpr this), if_pos h, Rat.neg_divInt]
    · have : ¬ n * d < 0 := by
        have := Int.mul_nonneg (a := n) (b := d) (by omega) (by omega)
        omega
      rw [if_neg (fun z => this ((lt_zero hd).mp z)), if_neg h]
theorem GoodP.neg {n d : Int} (h : GoodP n d) : GoodP (0 - n) d := ⟨h.ne, by have := h.top; omega, h.bot⟩
theorem GoodP.abs {n d : Int} (h : GoodP n d) : GoodP (if n < 0 then -n else n) (if d < 0 then -d else d) := ⟨by have := h.ne; split <;> omega, by have := h.top; split <;> omega, by have := h.bot; split <;> omega⟩
theorem GoodP.int {i : Int} (h : i.natAbs < 2 ^ 97) : GoodP i 1 := ⟨by decide, Nat.lt_trans h (by decide), by decide⟩
section
variable {K : PySem.W.Frag} {H H' : Hp} {p A B : Addr} {xs ps : List V} {qs : List Rat} {n m : Nat}
theorem RQ.upX {v : V} {q : Rat} (h : RQ K H v q) (s : SameX p H H') (b : BoxAt H p n) : RQ K H' v q := by
  obtain ⟨r, e, d, h⟩ := h
  refine ⟨r, e, d, s r _ (fun z => ?_) h⟩
  obtain ⟨x, y, z', e', _⟩ := b
  rw [z, e'] at h
  cases h
theorem PrQ.upX {v : V} {q : Rat} (h : PrQ H v q) (s : SameX p H H') (b : BoxAt H p n) : PrQ H' v q := by
  obtain ⟨t, x, d, e, h, g⟩ := h
  refine ⟨t, x, d, e, s t _ (fun z => ?_) h, g⟩
  obtain ⟨x, y, z', e', _⟩ := b
  rw [z, e'] at h
  cases h
theorem PrQ.app {v : V} {q : Rat} {L : Addr} {acc acc' : List V} (h : PrQ H v q) (hL : H L = some (.lst acc)) : PrQ (upd H L (.lst acc')) v q := by
  obtain ⟨t, x, d, e, h, g⟩ := h
  refine ⟨t, x, d, e, ?_, g⟩
  rw [upd_ne (fun z => by rw [z, hL] at h; cases h)]
  exact h
/-- the amounts and their pairs -/
structure Wl (K : PySem.W.Frag) (H0 H : Hp) (p A B : Addr) (xs ps : List V) (qs : List Rat) (n : Nat) : Prop where
  old : Same H0 H
  new : H0 p = none
  box : BoxAt H p n
  nA : A ≠ p
  nB : B ≠ p
  hA : H A = some (.lst xs)
  hx : Paired (RQ K H) xs qs
  hB : H B = some (.lst ps)
  hp : Paired (PrQ H) ps qs
variable {H0 : Hp}
theorem Wl.up (w : Wl K H0 H p A B xs ps qs n) (s : Same H H') : Wl K H0 H' p A B xs ps qs n :=
  ⟨w.old.trans s, w.new, w.box.up s, w.nA, w.nB, s _ _ w.hA, prd_rq w.hx s, s _ _ w.hB, Paired.mapP w.hp fun _ _ z => z.up s⟩
theorem Wl.upX (w : Wl K H0 H p A B xs ps qs n) (s : SameX p H H') (b : BoxAt H' p m) : Wl K H0 H' p A B xs ps qs m :=
  ⟨fun c o h => s c o (fun z => by rw [z, w.new] at h; cases h) (w.old c o h), w.new, b, w.nA, w.nB, s _ _ w.nA w.hA, Paired.mapP w.hx fun _ _ z => z.upX s w.box, s _ _ w.nB w.hB, Paired.mapP w.hp fun _ _ z => z.upX s w.box⟩
theorem Wl.at (w : Wl K H0 H p A B xs ps qs n) {i : Nat} {x y : V} (h1 : xs[i]? = some x) (h2 : ps[i]? = some y) : ∃ a t k d, x = .ref a ∧ y = .ref t ∧ IsQ K H a (Rat.divInt k d) ∧ H t = some (.tup [.int k, .int d]) ∧ GoodP k d := by
  obtain ⟨q, e1, a, rfl, hq⟩ := prd_get w.hx h1
  obtain ⟨q', e2, t, k, d, rfl, ht, g, rfl⟩ := prd_get w.hp h2
  rw [e1] at e2
  cases e2
  exact ⟨a, t, k, d, rfl, rfl, hq, ht, g⟩
theorem Wl.len (w : Wl K H0 H p A B xs ps qs n) : xs.length = qs.length ∧ ps.length = qs.length := ⟨w.hx.length, w.hp.length⟩
/-- Amount(..) of two integers -/
theorem mk_two {E : XK} {σ : L2.St} {Q : VK} {ta : TA} (a d : Int) (hd : d ≠ 0) (hb : d.natAbs < 2 ^ 8000) (ht : ∀ Q' : List V → Hp → Prop, Q' [.int a, .int d] H → ta σ H Q') (h : ∀ z H1, H z = none → Same H H1 → IsQ K H1 z (Rat.divInt a d) → Q (.ref z) H1) : L2.tMake (He.ga K "Amount") (spAmt K) [] E ta σ H Q :=
  ht _ fun z dz hz hdz _ => ⟨z, dz, _, _, rfl, upd_same, .int _, .int _, .inl ⟨a, d, rfl, rfl, hd, hb, rfl, h z _ hz (made_same hz hdz) ⟨dz, by rw [upd_same]⟩⟩⟩
/-- .. of one, an argument -/
theorem mk_one {E : XK} {σ : L2.St} {tr : TA} {Q : List V → Hp → Prop} {ta : TA} (i : Int) (ht : ∀ Q' : List V → Hp → Prop, Q' [.int i] H → ta σ H Q') (h : ∀ z H1, H z = none → Same H H1 → IsQ K H1 z (Rat.divInt i 1) → tr σ H1 fun xs H2 => Q (.ref z :: xs) H2) : tCons (L2.tMake (He.ga K "Amount") (spAmt K) [.int 1] E ta) tr σ H Q :=
  ht _ fun z dz hz hdz _ => ⟨z, dz, _, _, rfl, upd_same, .int _, .int _, .inl ⟨i, 1, rfl, rfl, by decide, by decide +kernel, rfl, h z _ hz (made_same hz hdz) ⟨dz, by rw [upd_same]⟩⟩⟩
end
end K02

set_option maxHeartbeats 4000000
namespace K02
open PySem PySem.Spec PyProof.Rows L2 AT
section
variable {P : Program} {w : World} {K : PySem.W.Frag} {mg : Str → Option Value} {base : Heap}
theorem same_sq {H H' : Hp} {a : Addr} {xs : List V} (s : Same H H') (h : SqL K H a xs) : SqL K H' a xs := AT.Same.sql s h
theorem dec_sgn {a b c d : Int} : decide (Rat.divInt a b = Rat.divInt c d) = decide (V.int (sgnP a b c d) = V.int 0) := by
  by_cases h : Rat.divInt a b = Rat.divInt c d
  · rw [decide_eq_true h, decide_eq_true (show V.int (sgnP a b c d) = V.int 0 from congrArg V.int (cmpQ_zero.mpr h))]
  · rw [decide_eq_false h, decide_eq_false (show ¬ V.int (sgnP a b c d) = V.int 0 from fun z => h (cmpQ_zero.mp (V.int.inj z)))]
def spLaw (K : PySem.W.Frag) : Sp := fun vs H Q _ => ∃ (a : Addr) (ns : List Int), vs = [.ref a] ∧ SqL K H a (ns.map V.int) ∧ ∀ H', Q (.bl true) H'
theorem sc_law : FnScope ["_law_script", "_law_k", "_law_box_here", "_law_lap", "_law_pairs", "_law_pair_here", "_law_amounts", "_law_one", "_law_left", "_law_other", "_law_right", "_law_whole"] ["_law_script"] (defScope s_law) := ⟨rfl, rfl, rfl, by decide +kernel, rfl, by decide +kernel, by decide +kernel⟩
theorem ok_law (T : Tx K mg base) : OkG P w K mg base 16 (d_law.loc K) ["_law_script"] (spLaw K) := by
  refine mk_okG (k := 15) T.f_law sc_law (fun _ _ _ _ _ _ us hl => match us, hl with | [_], _ => rfl) (fun vs H Q E h => ?_) (fun cdv A outer s H vs Q E hgd hr h => ?_)
  · obtain ⟨a, ns, rfl, _⟩ := h
    rfl
  · obtain ⟨a, ns, rfl, hS, k⟩ := h
    refine ⟨_, (pss_cons (ps_for (passes_of rfl) rfl (pi_range1 (by rfl) T.b_range (pa_cons (pe_callB (call_max2 rfl) (by rfl) T.b_max (by decide +kernel) (pa_cons pe_int (pa_cons (pe_callB (call_min2 rfl) (by rfl) T.b_min (by decide +kernel) (pa_cons pe_int (pa_cons (pe_callB call_len_seq (by rfl) T.b_len (by decide +kernel) (pa_cons (pv 0) pa_nil)) pa_nil))) pa_nil))) pa_nil)) (pg_name (i := 1) sc_law.nd rfl (Or.inl rfl)) (pss_cons (ps_set (i := 2) sc_law.nd rfl (Or.inr rfl) (ok_call (ok_w_box T) (hr.mono (by decide)) rfl T.g_w_box passL (pa_cons (ok_call (ok_w_cell T) (hr.mono (by decide)) rfl T.g_w_cell passL (pa_cons (pv 0) (pa_cons (pv 1) pa_nil))) pa_nil)))
      (pss_cons (ps_setLc (i := 4) (own := [("_law_lap", 3)]) (g := (gName 3)) (tt := tYes) (by rfl) sc_law.nd rfl rfl (sw_true rfl rfl rfl (by decide +kernel)) (pi_range1 (by rfl) T.b_range (pa_cons (pe_op op_add pe_int (ok_call (ok_w_take T) (hr.mono (by decide)) rfl T.g_w_take passL (pa_cons (pv 2) (pa_cons pe_int pa_nil)))) pa_nil)) (blkOk_by (own := [("_law_lap", 3)]) (N := ["_law_script", "_law_k", "_law_box_here", "_law_lap", "_law_pairs", "_law_pair_here", "_law_amounts", "_law_one", "_law_left", "_law_other", "_law_right", "_law_whole"]) (sc := defScope s_law) (by decide +kernel)) (fun _ _ _ _ _ => (pg_name (i := 3) sc_law.nd rfl (Or.inl rfl))) (fun _ _ _ _ _ => pts_nil) (fun _ _ _ _ _ => (ok_call (ok_w_pair T) (hr.mono (by decide)) rfl T.g_w_pair passL (pa_cons (pv 2) pa_nil))))
      (pss_cons (ps_setLc (i := 6) (own := [("_law_pair_here", 5)]) (g := (gName 5)) (tt := tYes) (by rfl) sc_law.nd rfl rfl (sw_true rfl rfl rfl (by decide +kernel)) (pi_list (pv 4)) (blkOk_by (own := [("_law_pair_here", 5)]) (N := ["_law_script", "_law_k", "_law_box_here", "_law_lap", "_law_pairs", "_law_pair_here", "_law_amounts", "_law_one", "_law_left", "_law_other", "_law_right", "_law_whole"]) (sc := defScope s_law) (by decide +kernel)) (fun _ _ _ _ _ => (pg_name (i := 5) sc_law.nd rfl (Or.inl rfl))) (fun _ _ _ _ _ => pts_nil) (fun _ _ _ _ _ => (ok_make T.mkr_Amount (ok_Amount_init_ T) (hr.mono (by decide)) rfl T.g_Amount passL (pa_cons (pe_ix (show IxR _ (rIxT K) from ix_tup) (pv 5) pe_int (fun _ _ => rfl)) (pa_cons (pe_ix (show IxR _ (rIxT K) from ix_tup) (pv 5) pe_int (fun _ _ => rfl)) pa_nil)))))
      (pss_cons (ps_if (pt_cmpR (show OpR _ _ (rNeE K) from op_neE hr.units) (pe_lc (own := [("_law_one", 7), ("_law_pair_here", 5)]) (g := (gTup K 2 (gCons (gName 7) (gCons (gName 5) gNil)))) (by rfl) sc_law.nd (RZ.pi_zipA (by rfl) T.b_zip (pa_cons (pv 6) (pa_cons (pv 4) pa_nil))) (blkOk_by (own := [("_law_one", 7), ("_law_pair_here", 5)]) (N := ["_law_script", "_law_k", "_law_box_here", "_law_lap", "_law_pairs", "_law_pair_here", "_law_amounts", "_law_one", "_law_left", "_law_other", "_law_right", "_law_whole"]) (sc := defScope s_law) (by decide +kernel)) (fun _ _ _ _ _ => (pg_tup rfl (pgs_cons (pg_name (i := 7) sc_law.nd rfl (Or.inl rfl)) (pgs_cons (pg_name (i := 5) sc_law.nd rfl (Or.inl rfl)) pgs_nil)))) (fun _ _ _ _ _ => (pts_one (pt_not (pt_val (ok_call (ok_w_is_pair T) (hr.mono (by decide)) rfl T.g_w_is_pair passL (pa_cons (pv 7) (pa_cons (pv 5) pa_nil))))))) (fun _ _ _ _ _ => pe_int)) (pe_lst pa_nil) (nomark _)) (pss_one (ps_ret pe_bl)) pss_nil)
      (pss_cons (ps_for (passes_of rfl) rfl (RZ.pi_zipA (by rfl) T.b_zip (pa_cons (pv 6) (pa_cons (pv 4) pa_nil))) (pg_tup rfl (pgs_cons (pg_name (i := 7) sc_law.nd rfl (Or.inl rfl)) (pgs_cons (pg_name (i := 8) sc_law.nd rfl (Or.inl rfl)) pgs_nil))) (pss_cons (ps_if (pt_not (pt_val (ok_call (ok_w_is_pair T) (hr.mono (by decide)) rfl T.g_w_is_pair passL (pa_cons (pe_un (un_own T.m_Amount_neg_.at_ T.m_Amount_neg_.fn (ok_Amount_neg_ T) (hr.mono (by decide)) passL) (pv 7)) (pa_cons (pe_tup (pa_cons (pe_op op_sub pe_int (pe_ix ix_tup (pv 8) pe_int (fun _ _ => rfl))) (pa_cons (pe_ix ix_tup (pv 8) pe_int (fun _ _ => rfl)) pa_nil))) pa_nil))))) (pss_one (ps_ret pe_bl)) pss_nil)
      (pss_cons (ps_if (pt_not (pt_val (ok_call (ok_w_is_pair T) (hr.mono (by decide)) rfl T.g_w_is_pair passL (pa_cons (pe_callB (call_absO T.m_Amount_abs_ (ok_Amount_abs_ T) (hr.mono (by decide)) passL) (by rfl) T.b_abs (by decide +kernel) (pa_cons (pv 7) pa_nil)) (pa_cons (pe_tup (pa_cons (pe_callB call_abs (by rfl) T.b_abs (by decide +kernel) (pa_cons (pe_ix ix_tup (pv 8) pe_int (fun _ _ => rfl)) pa_nil)) (pa_cons (pe_callB call_abs (by rfl) T.b_abs (by decide +kernel) (pa_cons (pe_ix ix_tup (pv 8) pe_int (fun _ _ => rfl)) pa_nil)) pa_nil))) pa_nil))))) (pss_one (ps_ret pe_bl)) pss_nil)
      (pss_cons (ps_for (passes_of rfl) rfl (RZ.pi_zipA (by rfl) T.b_zip (pa_cons (pv 6) (pa_cons (pv 4) pa_nil))) (pg_tup rfl (pgs_cons (pg_name (i := 9) sc_law.nd rfl (Or.inl rfl)) (pgs_cons (pg_name (i := 10) sc_law.nd rfl (Or.inl rfl)) pgs_nil))) (pss_one (ps_if (PW.pt (pw_or (pt_not (pt_val (ok_callG (ok_w_two_right T) hgd (hr.mono (by decide)) rfl T.g_w_two_right passL (pa_cons (pv 7) (pa_cons (pv 9) (pa_cons (pv 8) (pa_cons (pv 10) pa_nil))))))) (pw_or1 (pt_cmpR op_ne (pe_cmpR (op_eqO T.eq_Amount (ok_Amount_eq_ T) (hr.mono (by decide)) passL) (pv 7) (pv 9) (nomark _)) (pe_cmpR op_eq (ok_call (ok_w_sign T) (hr.mono (by decide)) rfl T.g_w_sign passL (pa_cons (pv 8) (pa_cons (pv 10) pa_nil))) pe_int (nomark _)) (nomark _))))) (pss_one (ps_ret pe_bl)) pss_nil)))
      (pss_cons (ps_set (i := 11) sc_law.nd rfl (Or.inl rfl) (ok_call (ok_w_integer T) (hr.mono (by decide)) rfl T.g_w_integer passL (pa_cons (pv 2) pa_nil)))
      (pss_cons (ps_if (PW.pt (pw_or (pt_not (pt_val (ok_callG (ok_w_two_right T) hgd (hr.mono (by decide)) rfl T.g_w_two_right passL (pa_cons (pv 7) (pa_cons (pv 11) (pa_cons (pv 8) (pa_cons (pe_tup (pa_cons (pv 11) (pa_cons pe_int pa_nil))) pa_nil))))))) (pw_or1 (pt_not (pt_val (ok_call (ok_w_is_pair T) (hr.mono (by decide)) rfl T.g_w_is_pair passL (pa_cons (ok_makeD T.mkr_Amount (okd_Amount_init_ T) (hr.mono (by decide)) rfl T.g_Amount (passE rfl rfl rfl rfl) (pa_cons (pv 11) pa_nil)) (pa_cons (pe_tup (pa_cons (pv 11) (pa_cons pe_int pa_nil))) pa_nil)))))))) (pss_one (ps_ret pe_bl)) pss_nil)
      (pss_one (ps_if (PW.pt (pw_or (pt_cmpR (op_eqF T.eq_Amount (kits_amt T) (okN_Amount_eq_ T) (hr.mono (by decide)) passL) (pv 7) (pe_ix ix_tup (pv 8) pe_int (fun _ _ => rfl)) (nomark _)) (pw_or (pt_not (pt_val (ok_callG (ok_w_refused T) hgd (hr.mono (by decide)) rfl T.g_w_refused passL (pa_cons (pv 7) pa_nil)))) (pw_or1 (pt_not (pt_val (ok_call (ok_w_is_pair T) (hr.mono (by decide)) rfl T.g_w_is_pair passL (pa_cons (pv 7) (pa_cons (pv 8) pa_nil))))))))) (pss_one (ps_ret pe_bl)) pss_nil))))))))
      (pss_one (ps_if (pt_not (pt_val (ok_call (ok_w_many_right T) (hr.mono (by decide)) rfl T.g_w_many_right passL (pa_cons (pv 6) (pa_cons (pv 4) pa_nil))))) (pss_one (ps_ret pe_bl)) pss_nil))))))))
      (pss_one (ps_ret (ok_callG0 (ok_w_none_right T) hgd (hr.mono (by decide)) rfl T.g_w_none_right passL)))), ?_⟩
    have hsz : sizeLine = 16777216 := sizeLine_eq
    refine ⟨_, rfl, a, _, rfl, .inl hS, _, _, rfl, _, _, rfl, ?_⟩
    have hm : ∃ m : Int, m = (if (if ((ns.map V.int).length : Int) < 6 then ((ns.map V.int).length : Int) else 6) > 2 then (if ((ns.map V.int).length : Int) < 6 then ((ns.map V.int).length : Int) else 6) else 2) ∧ 0 ≤ m ∧ m ≤ 6 := by
      refine ⟨_, rfl, ?_, ?_⟩ <;> split <;> split <;> omega
    obtain ⟨m, em, m0, m8⟩ := hm
    refine ⟨m, (by rw [em]), (by omega), (by omega), for_range (lo := 0) (n := m.toNat) (fun i σ' H' => ∃ (o1 o2 o4 o6 o7 o8 o9 o10 o11 : Option V), σ' = ([some (.ref a), o1, o2, none, o4, none, o6, o7, o8, o9, o10, o11] : L2.St) ∧ Same H H') ⟨_, _, _, _, _, _, _, _, _, rfl, Same.refl _⟩ ?_ ?_⟩
    · rintro i σ' Hs hi ⟨o1, o2, o4, o6, o7, o8, o9, o10, o11, rfl, s1⟩
      refine ⟨_, rfl, _, rfl, a, ns, i, (by rw [Int.zero_add]; rfl), same_sq s1 hS, (by omega), fun c => ?_⟩
      refine ⟨c, rfl, fun p H1 s2 gp b1 => ?_⟩
      -- the pairs
      refine ⟨_, rfl, p, 4, 0, rfl, b1, by decide, by decide, by decide, fun r H2 r0 r4 x2 b2 => ?_⟩
      refine ⟨_, _, rfl, rfl, 1 + r, rfl, by omega, by omega, fun B gB => ?_⟩
      have nB := box_ne b2 gB
      refine lc_range (lo := 0) (n := (1 + r).toNat) (fun j Hj => SameX p H2 Hj ∧ BoxAt Hj p (1 + 11 * j) ∧ ∃ acc qs, Hj B = some (.lst acc) ∧ Paired (PrQ Hj) acc qs ∧ acc.length = j) ⟨sameX_of (AT.Same.up gB), b2.up (AT.Same.up gB), [], [], upd_same, .nil, rfl⟩ (fun j Hj hj hP => ?_) (fun H3 hP => ?_)
      · obtain ⟨xj, bj, acc, qs, hacc, hp, hal⟩ := hP
        refine ⟨rfl, ?_⟩
        dsimp only [tYes]
        refine iteT ⟨_, rfl, p, _, rfl, bj, by omega, fun q n d H4 g nq gq hq x4 b4 => ?_⟩
        have hacc4 := x4 _ _ nB hacc
        have nqB : q ≠ B := fun e => by rw [e, hacc] at gq; cases gq
        refine ⟨acc, hacc4, by omega, fun b o nb e => ?_, ?_, acc ++ [.ref q], qs ++ [Rat.divInt n d], upd_same, ?_, by simp [hal]⟩
        · rw [upd_ne (fun z => by rw [z, gB] at e; cases e)]
          exact xj.trans x4 b o nb e
        · obtain ⟨u, v, z, e, h1, h2, h3, h4, h5⟩ := b4
          exact ⟨u, v, z, by rw [upd_ne (fun y => nB y.symm)]; exact e, h1, h2, h3, h4, by omega⟩
        · exact Paired.snoc (Paired.mapP hp fun _ _ z => (z.upX x4 bj).app hacc4) (PrQ.app ⟨q, n, d, rfl, hq, g, rfl⟩ hacc4)
      obtain ⟨x3, b3, ps, qs, hB, hp, hpl⟩ := hP
      have hl1 : 1 ≤ ps.length := by omega
      have hl4 : ps.length ≤ 4 := by omega
      have b3 : BoxAt H3 p 50 := b3.mono (by omega)
      -- the amounts
      refine ⟨_, rfl, B, rfl, ⟨_, SqL.of hB⟩, fun A gA => ?_⟩
      refine lc_list (K := K) (a := B) (xs := ps) (fun j Hj => Same H3 Hj ∧ ∃ acc, Hj A = some (.lst acc) ∧ Paired (RQ K Hj) acc (qs.take j)) ⟨AT.Same.up gA, [], upd_same, .nil⟩ (fun j Hj _ hP => SqL.of (hP.1 _ _ hB)) (fun j y Hj hyj hP => ?_) (fun H5 hP => ?_)
      · obtain ⟨sj, acc, hacc, hpa⟩ := hP
        obtain ⟨q, hqj, t, n, d, rfl, ht, g, rfl⟩ := prd_get hp hyj
        have htj := sj _ _ ht
        have hlu := hpa.length
        rw [List.length_take] at hlu
        have hj4 : j < ps.length := (List.getElem?_eq_some_iff.mp hyj).1
        refine ⟨rfl, ?_⟩
        dsimp only [tYes]
        refine iteT (mk_two n d g.ne (Nat.lt_trans g.bot (by decide)) (fun Q' z => ⟨_, rfl, t, _, 0, _, rfl, rfl, SqT.of htj, rfl, _, rfl, t, _, 1, _, rfl, rfl, SqT.of htj, rfl, z⟩) fun z Hk gz sk qz => ?_)
        have hacck := sk _ _ hacc
        refine ⟨acc, hacck, by omega, AT.Same.new (sj.trans sk) gA, acc ++ [.ref z], upd_same, ?_⟩
        rw [List.take_add_one, hqj]
        exact Paired.snoc (Paired.mapP hpa fun _ _ y => (y.up sk).app hacck) (RQ.app ⟨z, rfl, qz⟩ hacck)
      obtain ⟨s5, xs, hA, hx⟩ := hP
      rw [hp.length, List.take_length] at hx
      have W0 : Wl K Hs H5 p A B xs ps qs 50 := ⟨fun b o e => s5 _ _ (x3 b o (fun z => by rw [z, gp] at e; cases e) (x2 b o (fun z => by rw [z, gp] at e; cases e) (s2 _ _ e))), gp, b3.up s5, box_ne b3 gA, nB, hA, hx, s5 _ _ hB, Paired.mapP hp fun _ _ z => z.up s5⟩
      have hql : qs.length = ps.length := hp.length.symm
      clear hA hx s5 hp hB x3 b3 x2 b2 b1 s2 gA gB nB
      have p3 : ∀ {n d : Int}, GoodP n d → Bits 3000 (Rat.divInt n d) := fun g => g.bits.mono (by decide)
      have n3 : ∀ {n d : Int}, GoodP n d → n.natAbs < 2 ^ 3000 := fun g => Nat.lt_trans g.top (by decide)
      have d3 : ∀ {n d : Int}, GoodP n d → d.natAbs < 2 ^ 3000 := fun g => Nat.lt_trans g.bot (by decide)
      -- each amount is its pair
      refine ⟨_, rfl, _, rfl, A, B, xs, ps, rfl, .inl ⟨SqL.of W0.hA, SqL.of W0.hB, fun C gC => ?_⟩⟩
      refine lc_it (walk_zip (xs := xs) (ys := ps) (n := qs.length) (by have := W0.len; omega)) (fun j Hj => Same H5 Hj ∧ Hj C = some (.lst [])) ⟨AT.Same.up gC, upd_same⟩ (fun j Hj _ hP => ⟨SqL.of (W0.up hP.1).hA, SqL.of (W0.up hP.1).hB⟩) (fun j x Hj H9 hj hP hY => ?_) (fun H6 hP => ?_)
      · obtain ⟨sj, hC⟩ := hP
        obtain ⟨Tp, x0, y0, rfl, gT, rfl, hx0, hy0⟩ := hY
        have sT := AT.Same.up (o := .tup [x0, y0]) gT
        obtain ⟨a1, t, n, d, rfl, rfl, hq, ht, g⟩ := (W0.up (sj.trans sT)).at hx0 hy0
        refine ⟨Tp, _, rfl, SqT.of upd_same, rfl, _, _, rfl, _, _, rfl, rfl, rfl, ?_⟩
        refine ⟨_, rfl, _, rfl, a1, t, _, n, d, rfl, hq, p3 g, ht, g.ne, n3 g, d3 g, _, rfl, ?_⟩
        rw [decide_eq_true rfl]
        exact iteF ⟨sj.trans sT, sT _ _ hC⟩
      obtain ⟨s6, hC⟩ := hP
      refine ⟨(by show 0 ≤ sizeLine; decide), fun e0 ge0 => ⟨[], ⟨C, e0, rfl, rfl, SqL.of (AT.Same.up ge0 _ _ hC), SqL.of upd_same⟩, _, rfl, iteF ?_⟩⟩
      have W1 := W0.up (s6.trans (AT.Same.up (o := .lst []) ge0))
      generalize upd H6 e0 (.lst []) = H7 at W1 ⊢
      clear hC s6 ge0 gC W0
      -- one by one
      refine ⟨_, rfl, _, rfl, A, B, xs, ps, rfl, .inl ⟨SqL.of W1.hA, SqL.of W1.hB, for_it (walk_zip (xs := xs) (ys := ps) (n := qs.length) (by have := W1.len; omega)) (fun u σ' Hi => ∃ (o7 o8 o9 o10 o11 : Option V), σ' = ([some (.ref a), some (.int (0 + (i : Int))), some (.ref p), none, some (.ref B), none, some (.ref A), o7, o8, o9, o10, o11] : L2.St) ∧ Wl K Hs Hi p A B xs ps qs (50 + 5 * u)) ⟨_, _, _, _, _, rfl, W1⟩ (fun u σ' Hi _ hP => by obtain ⟨_, _, _, _, _, _, Wi⟩ := hP; exact ⟨SqL.of Wi.hA, SqL.of Wi.hB⟩) (fun u x σ' Hi H9 hu hP hY => ?_) (fun σ' Hi hP => ?_)⟩⟩
      · obtain ⟨o7, o8, o9, o10, o11, rfl, Wi⟩ := hP
        obtain ⟨Tp, x0, y0, rfl, gT, rfl, hx0, hy0⟩ := hY
        have sT := AT.Same.up (o := .tup [x0, y0]) gT
        obtain ⟨a1, t, n, d, rfl, rfl, hq, ht, g⟩ := (Wi.up sT).at hx0 hy0
        refine ⟨Tp, _, rfl, SqT.of upd_same, rfl, _, _, rfl, _, _, rfl, rfl, ?_⟩
        have WT := Wi.up sT
        generalize upd Hi Tp (.tup [.ref a1, .ref t]) = HT at WT hq ht ⊢
        clear sT gT Wi
        -- the opposite
        obtain ⟨dd, hq1⟩ := id hq
        refine ⟨_, rfl, a1, dd, _, rfl, hq1, a1, _, rfl, hq, p3 g, fun z Ha sa gz hz => ?_⟩
        have hta := sa _ _ ht
        refine ⟨_, rfl, t, _, 0, _, rfl, rfl, SqT.of hta, rfl, _, _, rfl, rfl, _, rfl, t, _, 1, _, rfl, rfl, SqT.of hta, rfl, (by show 2 ≤ sizeLine; decide), fun q2 gq2 => ?_⟩
        have sq2 := AT.Same.up (o := .tup [.int (0 - n), .int d]) gq2
        refine ⟨z, q2, _, 0 - n, d, rfl, hz.up sq2, by rw [neg_pq]; exact p3 g.neg, upd_same, g.ne, n3 g.neg, d3 g, _, rfl, ?_⟩
        rw [decide_eq_true neg_pq]
        refine iteF ?_
        have sTb := sa.trans sq2
        have hqb := hq.up sTb
        have htb := sTb _ _ ht
        obtain ⟨dd2, hqb1⟩ := id hqb
        -- the absolute value
        refine ⟨_, rfl, a1, dd2, _, rfl, hqb1, a1, _, rfl, hqb, p3 g, fun z2 Hb sb gz2 hz2 => ?_⟩
        have htc := sb _ _ htb
        refine ⟨_, rfl, t, _, 0, _, rfl, rfl, SqT.of htc, rfl, n, rfl, _, rfl, t, _, 1, _, rfl, rfl, SqT.of htc, rfl, d, rfl, (by show 2 ≤ sizeLine; decide), fun q3 gq3 => ?_⟩
        have sq3 := AT.Same.up (o := .tup [.int (if n < 0 then -n else n), .int (if d < 0 then -d else d)]) gq3
        refine ⟨z2, q3, _, (if n < 0 then -n else n), (if d < 0 then -d else d), rfl, hz2.up sq3, by rw [abs_pq g.ne]; exact p3 g.abs, upd_same, g.abs.ne, n3 g.abs, d3 g.abs, _, rfl, ?_⟩
        rw [decide_eq_true (abs_pq g.ne)]
        refine iteF ?_
        have sTc := sTb.trans (sb.trans sq3)
        have Wc := WT.up sTc
        have hqc := hq.up sTc
        have htc := sTc _ _ ht
        generalize upd Hb q3 (.tup [.int (if n < 0 then -n else n), .int (if d < 0 then -d else d)]) = Hc at Wc hqc htc ⊢
        clear sTc sTb sb sq3 sa sq2 hq ht hta hz hz2 hqb htb hqb1 hq1 WT
        -- with each other one
        refine ⟨_, rfl, _, rfl, A, B, xs, ps, rfl, .inl ⟨SqL.of Wc.hA, SqL.of Wc.hB, for_it (walk_zip (xs := xs) (ys := ps) (n := qs.length) (by have := Wc.len; omega)) (fun _ σ' Hj => ∃ (o9 o10 : Option V), σ' = ([some (.ref a), some (.int (0 + (i : Int))), some (.ref p), none, some (.ref B), none, some (.ref A), some (.ref a1), some (.ref t), o9, o10, o11] : L2.St) ∧ Same Hc Hj) ⟨_, _, rfl, Same.refl _⟩ (fun _ σ' Hj _ hP => by obtain ⟨_, _, _, sj⟩ := hP; exact ⟨SqL.of (Wc.up sj).hA, SqL.of (Wc.up sj).hB⟩) (fun v x σ' Hj H9 hv hP hY => ?_) (fun σ' Hj hP => ?_)⟩⟩
        · obtain ⟨o9, o10, rfl, sj⟩ := hP
          obtain ⟨Tq, x2, y2, rfl, gTq, rfl, hx2, hy2⟩ := hY
          have sq := AT.Same.up (o := .tup [x2, y2]) gTq
          obtain ⟨a2, t2, n2, d2, rfl, rfl, hq2, ht2, g2⟩ := (Wc.up (sj.trans sq)).at hx2 hy2
          refine ⟨Tq, _, rfl, SqT.of upd_same, rfl, _, _, rfl, _, _, rfl, rfl, ?_⟩
          have hq5 := hqc.up (sj.trans sq)
          have ht5 := (sj.trans sq) _ _ htc
          refine ⟨_, rfl, _, rfl, _, rfl, _, rfl, a1, .ref a2, t, t2, n, d, n2, d2, rfl, hq5, .obj hq2, ht5, ht2, g, g2, fun Hk sk => ⟨_, rfl, iteF ?_⟩⟩
          have hq6 := hq5.up sk
          obtain ⟨d6, hq7⟩ := id hq6
          refine ⟨_, rfl, _, rfl, a1, d6, _, rfl, hq7, (hq2.up sk).ofTy T, a1, a2, _, _, rfl, hq6, hq2.up sk, ?_⟩
          refine ⟨_, rfl, _, rfl, t, t2, n, d, n2, d2, rfl, sk _ _ ht5, sk _ _ ht2, g, g2, rfl, rfl, _, rfl, ?_⟩
          rw [dec_sgn, decide_eq_true rfl]
          exact iteF ⟨_, _, rfl, (sj.trans sq).trans sk⟩
        · obtain ⟨o9, o10, rfl, sj⟩ := hP
          have Wd := Wc.up sj
          refine ⟨_, rfl, p, _, rfl, Wd.box, by have := Wd.len; omega, fun wv Hee hw xe be => ?_⟩
          have We := Wd.upX xe be
          obtain ⟨a1', t', n, d, ea, et, hq, ht, g⟩ := We.at hx0 hy0
          cases ea
          cases et
          have gw := GoodP.int hw
          have qvi : ∀ {H6 : Hp}, Qv K H6 (.int wv) (Rat.divInt wv 1) := fun {H6} => by rw [q_int]; exact .int wv
          refine ⟨_, rfl, _, rfl, _, rfl, _, rfl, (by show 2 ≤ sizeLine; decide), fun q4 gq4 => ?_⟩
          have s4 := AT.Same.up (o := .tup [.int wv, .int 1]) gq4
          refine ⟨a1, .int wv, t, q4, n, d, wv, 1, rfl, hq.up s4, qvi, s4 _ _ ht, upd_same, g, gw, fun Hf sf => ⟨_, rfl, iteF ?_⟩⟩
          unfold tNot tB tCall
          refine mk_one wv (fun Q' z => ⟨_, rfl, z⟩) fun z Hg gz sg qz => ?_
          refine ⟨_, rfl, (by show 2 ≤ sizeLine; decide), fun q5 gq5 => ?_⟩
          have s5 := AT.Same.up (o := .tup [.int wv, .int 1]) gq5
          refine ⟨z, q5, _, wv, 1, rfl, qz.up s5, p3 gw, upd_same, by decide, n3 gw, by decide, _, rfl, ?_⟩
          rw [decide_eq_true rfl]
          refine iteF ?_
          have sE := s4.trans (sf.trans (sg.trans s5))
          have hq5 := hq.up sE
          have ht5 := sE _ _ ht
          obtain ⟨d5, hq6⟩ := id hq5
          refine ⟨_, rfl, _, rfl, t, _, 0, _, rfl, rfl, SqT.of ht5, rfl, a1, d5, _, "int", rfl, hq6, .int _, ⟨a1, _, .int n, rfl, hq5, .int n, nofun, rfl⟩, _, rfl, iteF ?_⟩
          refine ⟨_, rfl, a1, _, rfl, hq5, g.bits, fun Hh sh => ⟨_, rfl, iteF ?_⟩⟩
          refine ⟨_, rfl, _, rfl, a1, t, _, n, d, rfl, hq5.up sh, p3 g, sh _ _ ht5, g.ne, n3 g, d3 g, _, rfl, ?_⟩
          rw [decide_eq_true rfl]
          exact iteF ⟨_, _, _, _, _, rfl, We.up (sE.trans sh)⟩
      · obtain ⟨o7, o8, o9, o10, o11, rfl, Wi⟩ := hP
        have hl := Wi.len
        refine ⟨_, rfl, _, rfl, A, B, xs, ps, qs, rfl, Wi.hA, Wi.hx, Wi.hB, Wi.hp, by omega, by omega, fun Hz sz => ⟨_, rfl, iteF ?_⟩⟩
        exact ⟨_, _, _, _, _, _, _, _, _, rfl, s1.trans (Wi.old.trans sz)⟩
    · rintro σ' H' ⟨o1, o2, o4, o6, o7, o8, o9, o10, o11, rfl, s1⟩
      exact ⟨rfl, fun H1 _ => k _⟩
end
end K02

set_option maxHeartbeats 0
open PySem PySem.W PySem.Calls PyProof.Rows
theorem PySem.Challenge.cw_anytempo_k02_amounts_reckoned_holds : PySem.Challenge.rw_anytempo_k02_amounts_reckoned.Holds := by
  w_on; o_law
  refine HandSHeadRun.head_any (r := OpenLaw.row PySem.Challenge.rw_anytempo_k02_amounts_reckoned) (q := view (OpenLaw.row PySem.Challenge.rw_anytempo_k02_amounts_reckoned).prog [K02.lawAt]) (H := K02.hk) (ob := K02.ob) (M := 20000) (loose := K02.names) (d := HandSHeadRun.topDef (OpenLaw.row PySem.Challenge.rw_anytempo_k02_amounts_reckoned).prog K02.lawAt) (kwd := []) K02.ob_eq
    (by kernel_rfl) (fun s => by kernel_rfl) K02.run (by kernel_rfl) (by kernel_rfl) (by kernel_rfl) (by rfl) (by first | assumption | decide +kernel) (by decide +kernel) ⟨rfl, rfl, rfl, rfl, rfl, by decide +kernel⟩ ?hw ?hc
  case hw => w_witness2
  case hc =>
    refine AT.walkO (l := PySem.Challenge.rw_anytempo_k02_amounts_reckoned) (n := 63) (k := 16) (x := "_law_script") (CX := fun w => L2.CX PySem.Challenge.rw_anytempo_k02_amounts_reckoned.prog w) rfl (by decide) (by kernel_rfl) ⟨rfl, by decide, by decide⟩ ?F (fun w H s e s' z => AT.cx_false z)
    intro w mg fa h Y G hmg0
    obtain ⟨K, KX, c⟩ := Y
    have e : (HandSHeadRun.topDef (OpenLaw.row PySem.Challenge.rw_anytempo_k02_amounts_reckoned).prog K02.lawAt).name = ("law" : PySem.Str) := by kernel_rfl
    rw [e] at hmg0
    have T : K02.Tx K mg h := ⟨c, KX, G⟩
    have e2 := hmg0.symm.trans T.g_law
    cases e2
    refine ⟨K, K02.spLaw K, KX, fun H a ns hl _ hS => ⟨a, ns, rfl, hS, fun _ => rfl⟩, fun base kb gb => ?_⟩
    obtain ⟨fd, hF, hb, _⟩ := K02.ok_law (P := PySem.Challenge.rw_anytempo_k02_amounts_reckoned.prog) (w := w) ⟨c, kb, gb⟩
    exact ⟨fd, hF, hb⟩

