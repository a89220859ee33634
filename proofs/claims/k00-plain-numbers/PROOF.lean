import PyProof.Rows.All
import Wide.All
import OpenK.AllK
import Wide.FinOn
import KE.KStateDown
import HandS.ForMost
import HandS.ForExc
import HandS.More
import HandS.Flow
import HandS.Style
import HandS.Wide
import HandS.Gcd
import HandS.IsInst
import HandS.FStr
import HandS.StrMore
import HandS.Conv
import HandS.TupLe
import HandS.RaiseMore
import HandS.CallSlots
import HandS.Codes
import HandS.Defaults
import HandS.MakeKw
import HandS.ExcInit
import HandS.ExcInitHot
import HandS.ExcField
import HandS.SuiteRaise
import HandS.RaiseFrom
import HandS.OwnEq
import HandS.Head0
import HandS.Head1
import HandS.Head2
import HandS.Head3
import HandS.HeadEnd
import HandS.HeadHook1
import HandS.HeadHook2
import HandS.Zip
import PySem.Challenge.RW_twiceless_k00_whole_chain_of_plain_numbe
set_option Elab.async false
set_option linter.all false
set_option maxRecDepth 100000
set_option maxHeartbeats 4000000
set_option exponentiation.threshold 10000
/-! ## LAY: what serves every law: the hook, a def's promise as one thing, more rules, heaps that grow -/
namespace Lay
open PySem PySem.Spec PyProof.Rows L2
/-! ### the hook: facts by names, and one more Bool -/
def obsX (fa : List He.Fa) (fn : List He.DefD) (ex : PySem.W.Frag → Bool) (K : PySem.W.Frag) : He.AlD := ((fa.all fun f => f.ok K) && ((fn.all fun d => d.ok K) && ex K), fn.map fun d => He.fnW K d.at_)
def SaysX (fa : List He.Fa) (fn : List He.DefD) (ex : PySem.W.Frag → Bool) (K : PySem.W.Frag) : Prop := obsX fa fn ex K = He.valD fn
def obsXG (n : Nat) (fa : List He.Fa) (fn : List He.DefD) (ex : PySem.W.Frag → Bool) (g : Addr → Option Obj) : He.AlD := obsX fa fn ex (He.frG g (He.asD g n))
def hookX (n : Nat) (fa : List He.Fa) (fn : List He.DefD) (ex : PySem.W.Frag → Bool) : PySem.W.Hook where
  α := He.AlD
  obs := fun s => obsXG n fa fn ex s.heap.get?
  val := fun _ => He.valD fn
  says := fun _ h => ∃ K : PySem.W.Frag, K.In h ∧ SaysX fa fn ex K
  of := fun _ _ e => ⟨_, He.frG_in, e⟩
  keeps := fun _ _ _ ⟨K, hK, c⟩ k => ⟨K, PySem.W.Frag.In.keeps hK k, c⟩
theorem obsXG_eq {n : Nat} {fa : List He.Fa} {fn : List He.DefD} {ex : PySem.W.Frag → Bool} {g : Addr → Option Obj} {s : Shared} (h : ∀ a, g a = s.heap.get? a) : obsXG n fa fn ex g = (hookX n fa fn ex).obs s := by
  have e : g = s.heap.get? := funext h
  rw [e] <;> rfl
section
variable {fa : List He.Fa} {fn : List He.DefD} {ex : PySem.W.Frag → Bool} {K : PySem.W.Frag}
theorem SaysX.fact (c : SaysX fa fn ex K) (i : Nat) {f : He.Fa} (h : fa[i]? = some f := by rfl) : f.ok K = true := by
  have c1 := (He.ba (show ((fa.all fun f => f.ok K) && ((fn.all fun d => d.ok K) && ex K)) = true from congrArg (fun z : He.AlD => z.1) c)).1
  exact List.all_eq_true.mp c1 f (List.mem_of_getElem? h)
theorem SaysX.extra (c : SaysX fa fn ex K) : ex K = true :=
  (He.ba (He.ba (show ((fa.all fun f => f.ok K) && ((fn.all fun d => d.ok K) && ex K)) = true from congrArg (fun z : He.AlD => z.1) c)).2).2
theorem SaysX.def_ (c : SaysX fa fn ex K) (i : Nat) {d : He.DefD} (h : fn[i]? = some d := by rfl) : ∃ fd, FunD K d.name d.qual d.params d.body d.scope (d.dvs K) (d.kws K) (He.fAd K d.at_) fd := by
  have c2 := (He.ba (He.ba (show ((fa.all fun f => f.ok K) && ((fn.all fun d => d.ok K) && ex K)) = true from congrArg (fun z : He.AlD => z.1) c)).2).1
  have e : fn.map (fun d => He.fnW K d.at_) = fn.map He.DefD.val := congrArg (fun z : He.AlD => z.2) c
  have e2 : (fn.map fun d => He.fnW K d.at_)[i]? = (fn.map He.DefD.val)[i]? := by rw [e]
  rw [List.getElem?_map, List.getElem?_map, h] at e2
  exact He.DefD.funD (Option.some.inj e2) (List.all_eq_true.mp c2 d (List.mem_of_getElem? h))
end
/-- an own exception class (or one over it) over ValueError -/
def oexB (K : PySem.W.Frag) (C : Addr) : Bool := (match K.lookup C with
  | some ⟨.type "type", _, .cls cd, sl⟩ => (match cd.mro, sl.toList with
    | .ref C' :: bm, [_, _, _, _, some (.builtin n), _] => C' == C && n == "ValueError.__new__" && !cd.hasDel && cd.hasDict && PySem.HandSPX.refsVE bm
    | _, _ => false)
  | _ => false) && (decide (PySem.W.findIn K (.ref C) "__setattr__" = some (some (.builtin "object.__setattr__"))) && (decide (PySem.W.subIn K (.ref C) (.type "BaseException") = some true) && (decide (PySem.W.typeIn K (.ref C) = some (.type "type")) && PySem.W.keepIn K (.ref C))))
theorem oexB_ok {K : PySem.W.Frag} {C : Addr} (h : oexB K C = true) : OexC K C := by
  obtain ⟨h1, h⟩ := He.ba h
  obtain ⟨h2, h⟩ := He.ba h
  obtain ⟨h3, h⟩ := He.ba h
  obtain ⟨h4, h5⟩ := He.ba h
  refine ⟨?_, of_decide_eq_true h2, of_decide_eq_true h3, of_decide_eq_true h4, h5⟩
  split at h1
  · rename_i dd cd sl ho
    split at h1
    · rename_i C' bm k0 k1 k2 k3 n k5 hm hs
      simp only [Bool.and_eq_true, beq_iff_eq, Bool.not_eq_true'] at h1
      obtain ⟨⟨⟨⟨rfl, rfl⟩, hdel⟩, hdict⟩, ht⟩ := h1
      obtain ⟨nm, bs, mro, ns, qn, hd, sn, sub, ab, col, del⟩ := cd
      dsimp only at hm hdel hdict
      subst hm hdel hdict
      have hsl : sl = #[k0, k1, k2, k3, some (.builtin "ValueError.__new__"), k5] := by
        obtain ⟨l⟩ := sl
        simp only at hs
        rw [hs]
      subst hsl
      exact ⟨_, _, _, _, _, _, _, _, _, _, _, _, _, _, _, ho, ht⟩
    · cases h1
  · cases h1
/-- an own exception class's __init__ and fields -/
structure OexI (K : PySem.W.Frag) (C fI : Addr) : Prop where
  c : OexC K C
  x : XfC K C
  iC : PySem.W.findIn K (.ref C) "__init__" = some (some (.ref fI))
  tI : PySem.W.typeIn K (.ref fI) = some (.type "function")
  te : PySem.W.exmOne K (.ref C) (.ref C) = some true
def oexIB (K : PySem.W.Frag) (C fI : Addr) : Bool := oexB K C && (xfB K C && (decide (PySem.W.findIn K (.ref C) "__init__" = some (some (.ref fI))) && (decide (PySem.W.typeIn K (.ref fI) = some (.type "function")) && decide (PySem.W.exmOne K (.ref C) (.ref C) = some true))))
theorem oexIB_ok {K : PySem.W.Frag} {C fI : Addr} (h : oexIB K C fI = true) : OexI K C fI := by
  obtain ⟨h1, h⟩ := He.ba h
  obtain ⟨h2, h⟩ := He.ba h
  obtain ⟨h3, h⟩ := He.ba h
  obtain ⟨h4, h5⟩ := He.ba h
  exact ⟨oexB_ok h1, xfB_ok h2, of_decide_eq_true h3, of_decide_eq_true h4, of_decide_eq_true h5⟩
def noB (K : PySem.W.Frag) (C : Addr) (x : Str) : Bool := decide (PySem.W.findIn K (.ref C) x = some none)
theorem noB_ok {K : PySem.W.Frag} {C : Addr} {x : Str} (h : noB K C x = true) : PySem.W.findIn K (.ref C) x = some none := of_decide_eq_true h
/-- what isinstance asks of an instance's class -/
structure TyI (K : PySem.W.Frag) (C : Addr) : Prop where
  ha : PySem.W.findIn K (.ref C) "__class__" = some (some (.builtin "object.__class__"))
  hn : PySem.W.specialIn K (.builtin "object.__class__") "__get__" = some (some (.builtin "getset_descriptor.__get__"))
  htk : PySem.W.takesIn K (.builtin "object.__class__") = some true
  hm : PySem.W.mroIn K C (.type "object") = some true
def tyIB (K : PySem.W.Frag) (C : Addr) : Bool := decide (PySem.W.findIn K (.ref C) "__class__" = some (some (.builtin "object.__class__"))) && (decide (PySem.W.specialIn K (.builtin "object.__class__") "__get__" = some (some (.builtin "getset_descriptor.__get__"))) &&
  (decide (PySem.W.takesIn K (.builtin "object.__class__") = some true) && decide (PySem.W.mroIn K C (.type "object") = some true)))
theorem tyIB_ok {K : PySem.W.Frag} {C : Addr} (h : tyIB K C = true) : TyI K C := by
  obtain ⟨h1, h⟩ := He.ba h
  obtain ⟨h2, h⟩ := He.ba h
  obtain ⟨h3, h4⟩ := He.ba h
  exact ⟨of_decide_eq_true h1, of_decide_eq_true h2, of_decide_eq_true h3, of_decide_eq_true h4⟩
theorem TyI.tyx {K : PySem.W.Frag} {C : Addr} (t : TyI K C) (c : Cls K C) {H : Hp} {a dx : Addr} {fs : List (Str × V)} (h : H a = some (.ins C dx fs)) : TyX K H (.ref a) (.ref C) := .base (.ins h c t.ha t.hn t.htk t.hm)
theorem kit_self {K : PySem.W.Frag} {C : Addr} : PySem.W.kitOne K (.ref C) (.ref C) = some true := by
  unfold PySem.W.kitOne
  rw [if_pos (by simp)]
theorem kit_same {K : PySem.W.Frag} {t : Value} : PySem.W.kitOne K t t = some true := by
  unfold PySem.W.kitOne
  rw [if_pos (by simp)]
/-- the module's name x is the built-in n -/
def bltB (K : PySem.W.Frag) (x : Str) (n : String) : Bool := (match PySem.W.nsIn K mainGlobals x with
  | some (some (.builtin m)) => m == n
  | _ => false)
theorem bltB_ok {K : PySem.W.Frag} {h : Heap} {mg : Str → Option Value} {x : Str} {n : String} (X : K.In h) (G : h.Ns mainGlobals mg) (c : bltB K x n = true) : mg x = some (.builtin n) := by
  unfold bltB at c
  cases q : PySem.W.nsIn K mainGlobals x with
  | none =>
    rw [q] at c
    cases c
  | some r =>
    rw [q] at c
    cases r with
    | none => cases c
    | some v =>
      cases v with
      | builtin m =>
        have e : m = n := beq_iff_eq.mp c
        subst e
        exact PySem.W.mg_of X G q
      | _ => cases c
/-! ### a def's promise as one thing -/
/-- the def at f keeps sp, with the defaults dvs for the parameters that are not written -/
def Fk (P : Program) (w : World) (K : PySem.W.Frag) (mg : Str → Option Value) (base : Heap) (CX : CXT) (k : Nat) (f : Addr) (ps : List Str) (dvs : List V) (sp : Sp) : Prop :=
  ∃ (fd : FuncData) (ds : List Value), FnOk P w K mg base CX k f fd ps sp ∧ Binds K fd ps ds ∧ Vals dvs ds ∧ PySem.W.keepIn K (.ref f) = true
section
variable {X : Cx} {CX : CXT} {k : Nat} {f C : Addr} {ps : List Str} {sp : Sp} {dvs : List V} {E : XK} {x m : Str} {p pos apos : Pos} {e o : Expr} {es : List Expr} {ta : TE} {t : TA}
theorem Fk.mono {P : Program} {w : World} {K : PySem.W.Frag} {mg : Str → Option Value} {base : Heap} {j : Nat} (h : Fk P w K mg base CX k f ps dvs sp) (hk : k ≤ j) : Fk P w K mg base CX j f ps dvs sp := by
  obtain ⟨fd, ds, F, b⟩ := h
  exact ⟨fd, ds, F.mono hk, b⟩
theorem qcall (h : Fk X.prog X.w X.K X.mg X.base CX k f ps dvs sp) (hr : Room k X.A) (hm : X.mg x = some (.ref f)) (hx : Passes CX X E) (ha : PA X (e :: es) t) (hg : Gl X x := by rfl)
    (hdb : (x == ("__debug__" : Str)) = false := by decide) (he : starEach (e :: es) X.env = (false, eval e X.env) :: starEach es X.env := by rfl) (hpl : (backTo pos (starEach es X.env)).any (·.1) = false := by rfl) :
    PE X (.Call (.Name x p) (e :: es) [] pos) (tCall sp dvs E t) := by
  obtain ⟨fd, ds, F, b, d, kp⟩ := h
  exact pe_call F hr hg hm kp b d hx ha hdb he hpl
/-- the same, what is raised wished for at the slots -/
theorem qcallS {E : L2.St → XK} (h : Fk X.prog X.w X.K X.mg X.base CX k f ps dvs sp) (hr : Room k X.A) (hm : X.mg x = some (.ref f)) (hx : ∀ σ, PassesAt CX X σ (E σ)) (ha : PA X (e :: es) t) (hg : Gl X x := by rfl)
    (hdb : (x == ("__debug__" : Str)) = false := by decide) (he : starEach (e :: es) X.env = (false, eval e X.env) :: starEach es X.env := by rfl) (hpl : (backTo pos (starEach es X.env)).any (·.1) = false := by rfl) :
    PE X (.Call (.Name x p) (e :: es) [] pos) (tCallSD sp dvs E t) := by
  obtain ⟨fd, ds, F, b, d, kp⟩ := h
  exact pe_callSD F hr hg hm kp b d hx ha hdb he hpl
theorem qmeth {pl : Sem Bool} (h : Fk X.prog X.w X.K X.mg X.base CX k f ps dvs sp) (hr : Room k X.A) (c : Cls X.K C) (hm : Meth X.K C m f) (hx : Passes CX X E) (ho : PE X o ta) (ha : PA X (e :: es) t)
    (hst : starEach (e :: es) X.env = (false, eval e X.env) :: starEach es X.env := by rfl) (hpl : (backTo pos (starEach es X.env)).any (·.1) = false := by rfl)
    (ht : eval (.Call (.Attribute o m apos) (e :: es) [] pos) X.env = (do
      let ov ← eval o X.env
      standAt apos.atName
      let (f, first) ← holding [ov] (getMethod ov m pl)
      callWith pos f first (backTo pos (starEach (e :: es) X.env)) (backToKw pos (keywordEach [] X.env))) := by rfl) :
    PE X (.Call (.Attribute o m apos) (e :: es) [] pos) (tMeth C m sp dvs E ta t) := by
  obtain ⟨fd, ds, F, b, d, kp⟩ := h
  exact pe_meth ho c hm F hr b d hx ha hst hpl ht
/-- o.m(e, ..), what is raised wished for at the slots -/
def tMethSD (C : Addr) (m : Str) (sp : Sp) (dvs : List V) (E : L2.St → XK) (ta : TE) (t : TA) : TE := fun σ H Q => ta σ H fun x H1 => ∃ a dx fs, x = .ref a ∧ H1 a = some (.ins C dx fs) ∧ fs.lookup m = none ∧
  t σ H1 fun vs H2 => sp (x :: (vs ++ dvs)) H2 Q (E σ)
theorem qmethS {E : L2.St → XK} {pl : Sem Bool} (h : Fk X.prog X.w X.K X.mg X.base CX k f ps dvs sp) (hr : Room k X.A) (c : Cls X.K C) (hm : Meth X.K C m f) (hx : ∀ σ, PassesAt CX X σ (E σ)) (ho : PE X o ta) (ha : PA X (e :: es) t)
    (hst : starEach (e :: es) X.env = (false, eval e X.env) :: starEach es X.env := by rfl) (hpl : (backTo pos (starEach es X.env)).any (·.1) = false := by rfl)
    (ht : eval (.Call (.Attribute o m apos) (e :: es) [] pos) X.env = (do
      let ov ← eval o X.env
      standAt apos.atName
      let (f, first) ← holding [ov] (getMethod ov m pl)
      callWith pos f first (backTo pos (starEach (e :: es) X.env)) (backToKw pos (keywordEach [] X.env))) := by rfl) :
    PE X (.Call (.Attribute o m apos) (e :: es) [] pos) (tMethSD C m sp dvs E ta t) := by
  obtain ⟨fd, ds, F, b, d, kp⟩ := h
  refine ⟨fun pins s σ H Q I h => ?_⟩
  refine PySem.W.methodCall_KW (pl := pl) (thn (ho.run pins s σ H _ I h) fun u s1 ⟨x, H1, I1, rx, a, dx, fs, ex, ea, l, q⟩ => ?_) ht
  subst ex
  obtain rfl : u = Value.ref a := rx
  refine getmeth_ok I1 ea c hm l ?_
  refine PySem.W.callWith_K (first := [.ref a]) (h₀ := X.base) I.ok.mod.kin hm.kp (thn (ha.run pos pins s1 σ H1 _ I1 q) fun us s2 ⟨vs, H2, I2, r, q2⟩ => ⟨I2.kIn, ?_⟩) hst hpl
  exact run_fnSD (us := .ref a :: us) (vs := .ref a :: vs) F hr b d (hx σ) I2 (.cons rfl r) q2
/-- C(e, ..) -/
theorem qmake (M : Mk X.K C f) (h : Fk X.prog X.w X.K X.mg X.base CX k f ps dvs sp) (hr : Room (k + 1) X.A) (hm : X.mg x = some (.ref C)) (hx : Passes CX X E) (ha : PA X (e :: es) t) (hg : Gl X x := by rfl)
    (hdb : (x == ("__debug__" : Str)) = false := by decide) (he : starEach (e :: es) X.env = (false, eval e X.env) :: starEach es X.env := by rfl) (hpl : (backTo pos (starEach es X.env)).any (·.1) = false := by rfl) :
    PE X (.Call (.Name x p) (e :: es) [] pos) (tMake C sp dvs E t) := by
  obtain ⟨fd, ds, F, b, d, kp⟩ := h
  exact pe_make M F hr hg hm b d hx ha hdb he hpl
/-- C(e, ..) of an own exception class, for raise -/
theorem qmk {fI : Addr} (h : Fk X.prog X.w X.K X.mg X.base CX k fI ps dvs sp) (T : OexI X.K C fI) (hr : Room (k + 1) X.A) (hx : Passes CX X (fun _ _ _ => False)) (hm : X.mg x = some (.ref C)) (ha : PA X (e :: es) t) (hg : Gl X x := by rfl)
    (hdb : (x == ("__debug__" : Str)) = false := by decide) (he : starEach (e :: es) X.env = (false, eval e X.env) :: starEach es X.env := by rfl) (hpl : (backTo pos (starEach es X.env)).any (·.1) = false := by rfl) :
    PMk X (.Call (.Name x p) (e :: es) [] pos) (tMkO C sp dvs t) := by
  obtain ⟨fd, ds, F, b, d, kp⟩ := h
  exact pmk_oex T.c T.iC T.tI F hr b d hx hg hm ha hdb he hpl
/-- the same where nothing is handled: the error's context is None -/
theorem qmkN {fI : Addr} (h : Fk X.prog X.w X.K X.mg X.base CX k fI ps dvs sp) (T : OexI X.K C fI) (hr : Room (k + 1) X.A) (hx : Passes CX X (fun _ _ _ => False)) (hm : X.mg x = some (.ref C)) (ha : PA X (e :: es) t) (hg : Gl X x := by rfl)
    (hdb : (x == ("__debug__" : Str)) = false := by decide) (he : starEach (e :: es) X.env = (false, eval e X.env) :: starEach es X.env := by rfl) (hpl : (backTo pos (starEach es X.env)).any (·.1) = false := by rfl) :
    L2N.PMk X (.Call (.Name x p) (e :: es) [] pos) (tMkO C sp dvs t) := by
  obtain ⟨fd, ds, F1, hb, hd, kp⟩ := h
  intro pins s σ H Q I h
  obtain ⟨nm, q, N, bs, bm, sn, sub, ab, col, dd, k0, k1, k2, k3, k5, hC, hbm⟩ := T.c.cls
  refine wpAny_Call_Name_kw (ld_glob I hg hm ?_ hdb)
  refine PySem.W.callWith_K (h₀ := X.base) I.ok.mod.kin T.c.kC (thn (ha.run pos pins s σ H _ I h) fun us s1 ⟨vs, H1, I1, r1, hz, q1⟩ => ⟨I1.kIn, ?_⟩) he hpl
  show wpAny _ _ (call (.ref C) us) _ _ _
  obtain ⟨hp, g, dr, tk, os⟩ := s1
  have hsz : hp.objs.size ≤ hp.objs.size + 1 := Nat.le_succ _
  have hn : H1 (hp.objs.size + 1) = none := I1.hok.fresh hsz
  have hq := q1 (hp.objs.size + 1) hn
  have kk : ∀ b o, hp.get? b = some o → ((hp.push (PySem.W.kdv_tup us)).push (PySem.HandSPX.excO C hp.objs.size)).get? b = some o := fun b o e => Heap.get?_push_of_some _ (Heap.get?_push_of_some _ e)
  have hget : ((hp.push (PySem.W.kdv_tup us)).push (PySem.HandSPX.excO C hp.objs.size)).get? (hp.objs.size + 1) = some (PySem.HandSPX.excO C hp.objs.size) := by heap_get
  have I2 : Inv X pins σ (upd H1 (hp.objs.size + 1) (exo (hp.objs.size + 1) C none)) ⟨(hp.push (PySem.W.kdv_tup us)).push (PySem.HandSPX.excO C hp.objs.size), g, dr, tk, os⟩ :=
    I1.laid (t' := tk) (a := hp.objs.size + 1) (o := exo (hp.objs.size + 1) C none) (h' := (hp.push (PySem.W.kdv_tup us)).push (PySem.HandSPX.excO C hp.objs.size)) kk hsz (exo_ok hget)
  have r2 : Vals (V.ref (hp.objs.size + 1) :: (vs ++ dvs)) (Value.ref (hp.objs.size + 1) :: (us ++ ds)) := .cons rfl (r1.append hd)
  have hl : (Value.ref (hp.objs.size + 1) :: us ++ ds).length = ps.length := by
    have e := r2.length
    rw [F1.len _ _ _ _ hq] at e
    exact e.symm
  have hus : us.length ≤ sizeLine := by
    rw [← Paired.length r1, sizeLine_eq]
    omega
  refine wpAny_call (PySem.HandSPX.call_own F.excBase_ValueError (fun Y => PySem.HandSPX.refsVE_contains Y bm hbm) (I1.kIn _ _ hC) (PySem.W.looks_findIn I1.kIn T.iC) (fun self => PySem.W.bind_fn I1.kIn self T.tI) hus
    (codeAny_mono (F1.run _ X.stack _ _ ⟨Value.ref (hp.objs.size + 1) :: us, []⟩ (Value.ref (hp.objs.size + 1) :: (us ++ ds)) _ _ (fun _ _ _ => False) (hr.make C us []) (I2.env0.make C us []) (hb _ (Value.ref (hp.objs.size + 1) :: us) I2.kIn hl) r2 hq) fun r s' hq' => ?_))
  cases r with
  | error er => exact hx pins σ _ _ er s' I2 hq'
  | ok fl =>
    cases fl with
    | ret u =>
      obtain ⟨v, H2, os2, bare2, un2, hok2, rv, ev, d, fs, ea, ed, hd1, q2⟩ := hq'
      subst ev
      obtain ⟨h2, g2, d2, t2, os'⟩ := s'
      obtain ⟨t0, G, J, kG, ge, hoe, na⟩ := mk_end0 (d2 := d2) (t2 := t2) I1 hsz kk un2 hok2 os2 bare2 ea ed hd1
      refine ⟨rv, ⟨hp.objs.size + 1, _, _, ⟨G, g2, d2, t2, os'⟩, _, .ref C, some d, rfl, J, kG, ge, hoe, ⟨rfl, rfl, fun vs hv => ?_⟩, rfl, rfl, na, rfl, bare2, raises_own T.c.exC T.c.tyC, q2⟩⟩
      cases hv
      rfl
    | next => exact False.elim hq'
    | brk => exact False.elim hq'
    | cont => exact False.elim hq'
theorem passN : Passes (L2N.CX X.prog X.w) X E0 := fun _ _ _ _ _ _ _ h => by
  obtain ⟨_, _, _, _, _, _, _, _, _, _, _, _, z⟩ := h
  exact z.elim
/-- a def's promise where an exception is handled -/
def FkH (P : Program) (w : World) (K : PySem.W.Frag) (mg : Str → Option Value) (base : Heap) (CX : CXT) (k : Nat) (f : Addr) (ps : List Str) (sp : Sp) : Prop :=
  ∃ (fd : FuncData), L2H.FnH P w K mg base CX k f fd ps sp ∧ Binds K fd ps [] ∧ PySem.W.keepIn K (.ref f) = true
theorem funD_okH {P : Program} {w : World} {K : PySem.W.Frag} {mg : Str → Option Value} {base : Heap} {x qual : Str} {params : Arguments} {body : List Stmt} {scope : Scope} {kws : List (Str × V)} {fd : FuncData} {N : List Str}
    (F : FunD K x qual params body scope dvs kws f fd) (S : FnScope N ps scope) (len : ∀ vs H Q E, sp vs H Q E → vs.length = ps.length)
    (hbody : ∀ (cdv : Value) (A : Around) (outer : List Env) (s : Shared) (H : Hp) (vs : List V) (Q : VK) (E : XK) (p : Addr × Obj), L2H.Hot1 A p → L2H.RoomH k (A.deeper (envOfC qual scope s.heap.objs.size f cdv)) → sp vs H Q E →
      ∃ t, PSs (L2H.cxH CX P w K mg base N qual scope f cdv A outer s H E p) body t ∧ t { nx := fun _ H' => Q .non H', rt := Q } (L2.start N vs) H) : L2H.FnH P w K mg base CX (k + 1) f fd ps sp := by
  obtain ⟨oc, od, dV, kV, doc, pm, an, cdv, ct, osl, rfl, lk, hcd, _, _⟩ := F.ex
  exact L2H.fn_ofH lk hcd S len fun A outer s H vs Q E p hot hr hsp => hbody cdv A outer s H vs Q E p hot hr hsp
/-- C(e, ..) of an own exception class, where an exception is handled -/
theorem qmkH {fI : Addr} (h : FkH X.prog X.w X.K X.mg X.base CX k fI ps sp) (T : OexI X.K C fI) (hr : L2H.RoomH (k + 1) X.A) (hc : L2H.HotC X) (hx : Passes CX X (fun _ _ _ => False)) (hm : X.mg x = some (.ref C)) (ha : PA X (e :: es) t) (hg : Gl X x := by rfl)
    (hdb : (x == ("__debug__" : Str)) = false := by decide) (he : starEach (e :: es) X.env = (false, eval e X.env) :: starEach es X.env := by rfl) (hpl : (backTo pos (starEach es X.env)).any (·.1) = false := by rfl) :
    L2H.PMk5 X (.Call (.Name x p) (e :: es) [] pos) (tMkO C sp [] t) := by
  obtain ⟨fd, F, b, kp⟩ := h
  exact L2H.pmk5_oexH T.c T.iC T.tI F hr hc b hx hg hm ha hdb he hpl
/-- // by any divisor but 0 -/
def CDivZ (_ j : Int) : Prop := j ≠ 0 ∧ j.natAbs.log2 < 9000
theorem op_fdivZ : OpR X (binaryOp .FloorDiv) (rI CDivZ fun i j => .int (i.fdiv j)) := opI fun _ _ _ _ _ _ _ hc q => floordiv_int hc.1 q (.inl (PyProof.noPylong_of_log2 hc.2))
end
section
variable {X : Cx} {CX : CXT} {k : Nat} {f C : Addr} {ps : List Str} {sp : Sp} {E : XK}
/-- x == y, two instances of a class with its own __eq__ that tells a truth value -/
def rEqO (C : Addr) (sp : Sp) (E : XK) : R2 := fun x y H Q => ∃ a b dx dy fs gs, x = .ref a ∧ y = .ref b ∧ H a = some (.ins C dx fs) ∧ H b = some (.ins C dy gs) ∧ sp [.ref a, .ref b] H (fun v H' => ∃ k, v = .bl k ∧ Q (.bl k) H') E
theorem op_eqO (h : Fk X.prog X.w X.K X.mg X.base CX k f ps [] sp) (hm : Meth X.K C "__eq__" f) (hr : Room k X.A) (hx : Passes CX X E) : OpR X (compareOp .Eq) (rEqO C sp E) := by
  intro pins s σ H x y v u Q I rx ry hq
  obtain ⟨a, b, dx, dy, fs, gs, rfl, rfl, ha, hb', hsp⟩ := hq
  cases rx
  cases ry
  obtain ⟨fd, ds, F, bd, d0, kp⟩ := h
  cases d0
  show wpAny (model X.prog X.w) X.A (richCompare .Eq (.ref a) (.ref b)) (EP X pins σ Q) X.xe s
  obtain ⟨mA, J, _⟩ := ins_get I.hok ha
  obtain ⟨mB, J', _⟩ := ins_get I.hok hb'
  obtain ⟨od, J, _⟩ := J.look
  obtain ⟨od', J', _⟩ := J'.look
  obtain ⟨m, hF⟩ := I.fr
  refine PySem.W.cmp_K (op := .Eq) (tb := .ref C) hr.units0 hF I.ok.mod.kin J J'.type (by simp [PySem.W.notFirst]) hm.at_ hm.fn ?_
  have hl := F.len _ _ _ _ hsp
  have r2 : Vals [V.ref a, V.ref b] [Value.ref a, Value.ref b] := .cons rfl (.cons rfl .nil)
  refine wpAny_call (codeAny_mono (F.run X.A X.stack s H ⟨[.ref a, .ref b], []⟩ [.ref a, .ref b] [.ref a, .ref b] _ E hr I.env0 (by
    have := bd s [.ref a, .ref b] I.kIn (by simpa using hl)
    simpa using this) r2 hsp) fun r s' hq => ?_)
  cases r with
  | error e => exact hx pins σ H s e s' I hq
  | ok fl =>
    cases fl with
    | ret w =>
      obtain ⟨z, H', I', rz, k, ez, q⟩ := I.after hq
      subst ez
      cases rz
      exact ⟨.bl k, H', I', rfl, q⟩
    | next => exact False.elim hq
    | brk => exact False.elim hq
    | cont => exact False.elim hq
end
/-- a block's reading, found first and named behind -/
theorem psEq {X : Cx} {b : List Stmt} {t t' : TS} (h : PSs X b t) (e : t = t') : PSs X b t' := by
  subst e
  exact h
/-- o.m(k = v, ..): keywords alone; what is raised wished for at the slots -/
def tMethK (C : Addr) (m : Str) (n : Nat) (sp : Sp) (gV : List V → List V → List V) (E : L2.St → XK) (ta : TE) (tk : TA) : TE := fun σ H Q => ta σ H fun x H1 => ∃ a dx fs, x = .ref a ∧ H1 a = some (.ins C dx fs) ∧ fs.lookup m = none ∧
  tk σ H1 fun zs H2 => zs.length = n ∧ sp (gV [x] zs) H2 Q (E σ)
theorem qmethK {X : Cx} {CX : CXT} {k : Nat} {f C : Addr} {fd : FuncData} {ps ks : List Str} {sp : Sp} {E : L2.St → XK} {m : Str} {apos pos : Pos} {o : Expr} {kws : List Keyword} {ta : TE} {tk : TA} {g : List Value → List Value → List Value} {gV : List V → List V → List V} {pl : Sem Bool}
    (F : FnOk X.prog X.w X.K X.mg X.base CX k f fd ps sp) (hb : KBn X.K fd ps 1 ks g gV) (hr : Room k X.A) (c : Cls X.K C) (hm : Meth X.K C m f) (hx : ∀ σ, PassesAt CX X σ (E σ)) (ho : PE X o ta) (hkw : PK X kws tk)
    (hall : (backToKw pos (keywordEach kws X.env)).all (·.1.isSome) = true := by rfl) (hks : (backToKw pos (keywordEach kws X.env)).filterMap (·.1) = ks := by rfl)
    (hpl : ((backTo pos (starEach [] X.env)).any (·.1) || (backToKw pos (keywordEach kws X.env)).any (·.1.isNone)) = false := by rfl)
    (ht : eval (.Call (.Attribute o m apos) [] kws pos) X.env = (do
      let ov ← eval o X.env
      standAt apos.atName
      let (f, first) ← holding [ov] (getMethod ov m pl)
      callWith pos f first (backTo pos (starEach [] X.env)) (backToKw pos (keywordEach kws X.env))) := by rfl) :
    PE X (.Call (.Attribute o m apos) [] kws pos) (tMethK C m ks.length sp gV E ta tk) := by
  refine ⟨fun pins s σ H Q I h => ?_⟩
  refine PySem.W.methodCall_KW (pl := pl) (thn (ho.run pins s σ H _ I h) fun u s1 ⟨x, H1, I1, rx, a, dx, fs, ex, ea, l, q⟩ => ?_) ht
  subst ex
  obtain rfl : u = Value.ref a := rx
  refine getmeth_ok I1 ea c hm l ?_
  refine PySem.W.callWith_KW0 (first := [.ref a]) (h₀ := X.base) I.ok.mod.kin hm.kp hall (thn (hkw.run pos pins s1 σ H1 _ I1 q) fun ws s2 ⟨zs, H2, I2, rz, l2, q2⟩ => ⟨I2.kIn, ?_⟩) hpl
  rw [hks]
  have r2 := hb.rel (vs := [V.ref a]) (us := [Value.ref a]) (.cons rfl .nil) rz
  show wpAny _ _ (call (.ref f) [Value.ref a] (ks.zip ws)) _ _ _
  refine wpAny_call (codeAny_mono (F.run X.A X.stack s2 H2 ⟨[.ref a], ks.zip ws⟩ (g [.ref a] ws) (gV [.ref a] zs) Q (E σ) hr I2.env0 (hb.to s2 [.ref a] ws I2.kIn rfl (rz.length.symm.trans l2)) r2 q2) fun r s' hq => ?_)
  cases r with
  | error e => exact hx σ pins _ _ e s' I2 hq
  | ok fl =>
    cases fl with
    | ret u => exact I2.after hq
    | next => exact False.elim hq
    | brk => exact False.elim hq
    | cont => exact False.elim hq
/-- the same rules with the written part by name (within comprehensions) -/
theorem pg_tupK {X : Cx} {K : PySem.W.Frag} {es : List Expr} {k : Nat} {t : TGs} {n : Nat} {pos : Pos} (eK : X.K = K) (hc : X.calm = true) (h : PGs X es t)
    (hn : (assignEach es X.env).length = n := by rfl) (hst : (assignEach es X.env).findIdx? (·.1) = none := by rfl) : PG X (.Tuple es k pos) (gTup K n t) := by
  subst eK
  exact pg_tup hc h hn hst
theorem ix_seqK {X : Cx} {K : PySem.W.Frag} (e : X.K = K) : IxR X (rIx K) := by
  subst e
  exact ix_seq
theorem ix_tupK {X : Cx} {K : PySem.W.Frag} (e : X.K = K) : IxR X (rIxT K) := by
  subst e
  exact ix_tup
theorem ix_listK {X : Cx} {K : PySem.W.Frag} (e : X.K = K) : IxR X (rIxL K) := by
  subst e
  exact ix_list
/-! tries whose reading is one word -/
def tOnly (K : PySem.W.Frag) (c : Value) (tb : WX → TS) (ts : Addr → Value → Option Addr → TS) (Wout : WX) : TS := fun D σ H => tb (wOnly K c ts Wout D) D σ H
def tAs (K : PySem.W.Frag) (c : Value) (i : Nat) (tb : WX → TS) (ts : Addr → Value → Option Addr → TS) (Wout : WX) : TS := fun D σ H => tb (wAs K c i ts Wout D) D σ H
section
variable {X : Cx} {x n : Str} {c : Value} {i : Nat} {body suite : List Stmt} {b₀ : Stmt} {np pos pos' : Pos} {tb : WX → TS} {ts : Addr → Value → Option Addr → TS} {Wout : WX}
theorem tryOnlyX (hs : X.stack = X.env :: X.outer) (hf : X.env.frame = some X.env.locals) (hc : Names X x c) (hpa : ∀ hd : Option Value, PassesOwnAt (model X.prog X.w) (X.A.mark hd) X.A X.env X.xe) (tk : L2.Takes X Wout)
    (hb : ∀ (W : WX) (pn : List (Addr × Obj)) (xe : Value → Shared → Prop), L2N.Takes (X.tr pn xe) W → L2.Takes (X.tr pn xe) (L2H.wPass X.K c Wout) → PassesOwn (model X.prog X.w) X.A X.env xe → PSs (X.tr pn xe) body (tb W))
    (hsu : ∀ (a : Addr) (oe : Obj) (cls : Value) (d : Option Addr) (pn : List (Addr × Obj)), L2N.Zn cls d oe → (∃ vs, oe.data = .fields vs) → L2.Takes (L2H.suiteX X a ((a, oe) :: pn)) Wout → L2H.HotC (L2H.suiteX X a ((a, oe) :: pn)) →
      PSs (L2H.suiteX X a ((a, oe) :: pn)) (b₀ :: suite) (ts a cls d)) :
    PS X (.Try body [.ExceptHandler (some (.Name x np)) none (b₀ :: suite) pos'] [] [] pos) (tOnly X.K c tb ts Wout) := L2H.ps_try_onlyX hs hf hc hpa tk hb hsu
theorem tryAs (hs : X.stack = X.env :: X.outer) (hf : X.env.frame = some X.env.locals) (hN : X.N.Nodup) (hi : X.N[i]? = some n) (hln : X.env.kindOf n = some .local) (hc : Names X x c) (tk : L2.Takes X Wout)
    (hb : ∀ (W : WX) (pn : List (Addr × Obj)) (xe : Value → Shared → Prop), L2.Takes (X.tr pn xe) W → PassesOwn (model X.prog X.w) X.A X.env xe → PSs (X.tr pn xe) body (tb W))
    (hsu : ∀ (a : Addr) (oe : Obj) (cls : Value) (d : Option Addr) (pn : List (Addr × Obj)), Zc cls d oe → (∃ vs, oe.data = .fields vs) → PSs (X.suite a ((a, oe) :: pn)) (b₀ :: suite) (ts a cls d)) :
    PS X (.Try body [.ExceptHandler (some (.Name x np)) (some n) (b₀ :: suite) pos'] [] [] pos) (tAs X.K c i tb ts Wout) := L2.ps_try_as hs hf hN hi hln hc tk hb hsu
theorem tryAsN (hs : X.stack = X.env :: X.outer) (hf : X.env.frame = some X.env.locals) (hN : X.N.Nodup) (hi : X.N[i]? = some n) (hln : X.env.kindOf n = some .local) (hc : Names X x c) (tk : L2N.Takes X Wout)
    (hb : ∀ (W : WX) (pn : List (Addr × Obj)) (xe : Value → Shared → Prop), L2N.Takes (X.tr pn xe) W → PassesOwn (model X.prog X.w) X.A X.env xe → PSs (X.tr pn xe) body (tb W))
    (hsu : ∀ (a : Addr) (oe : Obj) (cls : Value) (d : Option Addr) (pn : List (Addr × Obj)), L2N.Zn cls d oe → (∃ vs, oe.data = .fields vs) → PSs (X.suite a ((a, oe) :: pn)) (b₀ :: suite) (ts a cls d)) :
    PS X (.Try body [.ExceptHandler (some (.Name x np)) (some n) (b₀ :: suite) pos'] [] [] pos) (tAs X.K c i tb ts Wout) := L2N.ps_try_as hs hf hN hi hln hc tk hb hsu
end
theorem takes_noneN {X : Cx} : L2N.Takes X (fun _ _ _ _ => False) := fun _ _ ⟨_, _, _, _, _, _, _, _, _, _, _, _, _, _, _, _, w⟩ => w.elim
/-! ### heaps -/
/-- all stands as it was, but for the lists at M -/
def Fix (M : List Addr) (H H' : Hp) : Prop := ∀ b o, H b = some o → (b ∈ M → ∀ xs, o ≠ .lst xs) → H' b = some o
theorem Fix.refl {M : List Addr} (H : Hp) : Fix M H H := fun _ _ h _ => h
theorem Fix.of {M : List Addr} {H H' : Hp} (e : Same H H') : Fix M H H' := fun b o h _ => e b o h
theorem Fix.trans {M : List Addr} {H H1 H2 : Hp} (a : Fix M H H1) (b : Fix M H1 H2) : Fix M H H2 := fun c o h n => b c o (a c o h n) n
theorem Fix.mono {M N : List Addr} {H H' : Hp} (f : Fix M H H') (h : ∀ a ∈ M, a ∈ N) : Fix N H H' := fun b o e n => f b o e fun hb => n (h b hb)
theorem Fix.tup {M : List Addr} {H H' : Hp} {a : Addr} {xs : List V} (f : Fix M H H') (h : H a = some (.tup xs)) : H' a = some (.tup xs) := f a _ h fun _ _ z => by cases z
theorem Fix.ins {M : List Addr} {H H' : Hp} {a C dx : Addr} {fs : List (Str × V)} (f : Fix M H H') (h : H a = some (.ins C dx fs)) : H' a = some (.ins C dx fs) := f a _ h fun _ _ z => by cases z
theorem Fix.lst {M : List Addr} {H H' : Hp} {a : Addr} {xs : List V} (f : Fix M H H') (h : H a = some (.lst xs)) (n : a ∉ M) : H' a = some (.lst xs) := f a _ h fun z => absurd z n
theorem Same.new {H : Hp} {p : Addr} {o : HO} (h : H p = none) : Same H (upd H p o) := fun a u e => by
  rw [upd_ne (ne_of_none e h)]
  exact e
theorem Same.at {H H' : Hp} {a : Addr} {o : HO} (h : H a = some o) (e : Same H H') : H' a = some o := e a o h
theorem Same.ne {H H' : Hp} {a b : Addr} {o : HO} (h : H a = some o) (e : Same H H') (hb : H' b = none) : a ≠ b := ne_of_none (e a o h) hb
theorem SqT.of' {K : PySem.W.Frag} {H : Hp} {a : Addr} {xs : List V} (h : H a = some (.tup xs)) : SqT K H a xs := .inl (.inl h)
theorem SqL.of' {K : PySem.W.Frag} {H : Hp} {a : Addr} {xs : List V} (h : H a = some (.lst xs)) : SqL K H a xs := .inl (.inl h)
/-! ### places -/
theorem ix_nat {n k : Nat} (h : k < n) : ixN n (k : Int) = some k := by
  unfold ixN
  rw [if_pos (Int.natCast_nonneg k), if_pos (by omega), Int.toNat_natCast]
theorem ix_of {n k : Nat} {z : Int} (e : z = (k : Int)) (h : k < n) : ixN n z = some k := by
  rw [e]
  exact ix_nat h
/-! ### comprehensions whose elements are values known ahead -/
theorem filt_more {α β : Type} {l : List α} {i : Nat} {x : α} {p : α → Bool} {f : α → β} (h : l[i]? = some x) : ((l.take (i + 1)).filter p).map f = ((l.take i).filter p).map f ++ (if p x = true then [f x] else []) := by
  obtain ⟨hi, rfl⟩ := List.getElem?_eq_some_iff.mp h
  rw [List.take_succ_eq_append_getElem hi, List.filter_append, List.map_append]
  congr 1
  by_cases c : p l[i] = true
  · rw [if_pos c]
    simp [List.filter, c]
  · rw [if_neg c]
    simp [List.filter, c]
/-- [f x for x in a list if p x] -/
theorem lc_flat {α : Type} (emb f : α → V) (p : α → Bool) (ns : List α) {K : PySem.W.Frag} {a : Addr} {g : TG} {tt : TT} {te : TE} {vs : List Nat} {σ : L2.St} {H1 : Hp} {D : Addr} {Qd : Hp → Prop} (hD : H1 D = none) (ha : SqL K H1 a (ns.map emb)) (hz : ns.length < 1000000)
    (hs : ∀ x H acc (Nx : Hp → Prop), x ∈ ns → Same H1 H → H D = some (.lst acc) → acc.length < sizeLine → (∀ H4, p x = true → Same H H4 → Nx (upd H4 D (.lst (acc ++ [f x])))) → (∀ H4, p x = false → Same H H4 → Nx H4) →
      g (emb x) (wipe σ vs) H fun σ2 H2 => wipe σ2 vs = wipe σ vs ∧ tt σ2 H2 fun b H3 => if b = true then te σ2 H3 fun y H4 => ∃ acc, H4 D = some (.lst acc) ∧ acc.length < sizeLine ∧ Nx (upd H4 D (.lst (acc ++ [y]))) else Nx H3)
    (hd : ∀ H, Same H1 H → H D = some (.lst ((ns.filter p).map f)) → Qd H) :
    ∃ W : Nat → Nat → Hp → Prop, (∃ m, W 0 m (upd H1 D (.lst []))) ∧ ∀ i m H, W i m H →
      ((Itl K a).stop i H ∧ Qd H) ∨ ((Itl K a).go i H ∧ ∃ Nx : Hp → Prop, (∀ H', Nx H' → ∃ m', m' < m ∧ W (i + 1) m' H') ∧ ∀ x H', (Itl K a).yld i H x H' → g x (wipe σ vs) H' fun σ2 H2 => wipe σ2 vs = wipe σ vs ∧ tt σ2 H2 fun b H3 =>
        if b = true then te σ2 H3 fun y H4 => ∃ acc, H4 D = some (.lst acc) ∧ acc.length < sizeLine ∧ Nx (upd H4 D (.lst (acc ++ [y]))) else Nx H3) := by
  refine lc_list (K := K) (a := a) (xs := ns.map emb) (fun i H => Same H1 H ∧ H D = some (.lst (((ns.take i).filter p).map f))) ⟨Same.new hD, upd_same⟩ (fun i H _ z => z.1.seq ha) (fun i y H hi z => ?_) (fun H z => ?_)
  · obtain ⟨s1, hDi⟩ := z
    rw [List.getElem?_map] at hi
    obtain ⟨x, hx, rfl⟩ := Option.map_eq_some_iff.mp hi
    have hm := List.mem_of_getElem? hx
    have hl : (((ns.take i).filter p).map f).length ≤ ns.length := by
      rw [List.length_map]
      exact Nat.le_trans (List.length_filter_le _ _) (by rw [List.length_take]; omega)
    have upk : ∀ H4 : Hp, Same H H4 → ∀ xs, Same H1 (upd H4 D (.lst xs)) := fun H4 e xs b o hb => by
      rw [upd_ne (ne_of_none hb hD)]
      exact e _ _ (s1 _ _ hb)
    refine hs x H _ _ hm s1 hDi (Nat.lt_of_le_of_lt hl (by rw [sizeLine_eq]; omega)) (fun H4 e1 e => ⟨upk H4 e _, ?_⟩) (fun H4 e1 e => ⟨s1.trans e, ?_⟩)
    · rw [upd_same, filt_more hx, if_pos e1]
    · rw [e _ _ hDi, filt_more hx, if_neg (by rw [e1]; decide), List.append_nil]
  · obtain ⟨s1, hDn⟩ := z
    rw [List.length_map, List.take_length] at hDn
    exact hd H s1 hDn
theorem seqT {K : PySem.W.Frag} {H H' : Hp} {a : Addr} {xs : List V} (e : Same H H') (h : SqT K H a xs) : SqT K H' a xs := by
  rcases h with (h | ⟨o, h⟩) | h
  · exact .inl (.inl (e _ _ h))
  · exact .inl (.inr ⟨o, e _ _ h⟩)
  · exact .inr h
/-- [f x for x in a tuple if p x] -/
theorem lc_flatT {α : Type} (emb f : α → V) (p : α → Bool) (ns : List α) {K : PySem.W.Frag} {a : Addr} {g : TG} {tt : TT} {te : TE} {vs : List Nat} {σ : L2.St} {H1 : Hp} {D : Addr} {Qd : Hp → Prop} (hD : H1 D = none) (ha : SqT K H1 a (ns.map emb)) (hz : ns.length < 1000000)
    (hs : ∀ x H acc (Nx : Hp → Prop), x ∈ ns → Same H1 H → H D = some (.lst acc) → acc.length < sizeLine → (∀ H4, p x = true → Same H H4 → Nx (upd H4 D (.lst (acc ++ [f x])))) → (∀ H4, p x = false → Same H H4 → Nx H4) →
      g (emb x) (wipe σ vs) H fun σ2 H2 => wipe σ2 vs = wipe σ vs ∧ tt σ2 H2 fun b H3 => if b = true then te σ2 H3 fun y H4 => ∃ acc, H4 D = some (.lst acc) ∧ acc.length < sizeLine ∧ Nx (upd H4 D (.lst (acc ++ [y]))) else Nx H3)
    (hd : ∀ H, Same H1 H → H D = some (.lst ((ns.filter p).map f)) → Qd H) :
    ∃ W : Nat → Nat → Hp → Prop, (∃ m, W 0 m (upd H1 D (.lst []))) ∧ ∀ i m H, W i m H →
      ((Itt K a).stop i H ∧ Qd H) ∨ ((Itt K a).go i H ∧ ∃ Nx : Hp → Prop, (∀ H', Nx H' → ∃ m', m' < m ∧ W (i + 1) m' H') ∧ ∀ x H', (Itt K a).yld i H x H' → g x (wipe σ vs) H' fun σ2 H2 => wipe σ2 vs = wipe σ vs ∧ tt σ2 H2 fun b H3 =>
        if b = true then te σ2 H3 fun y H4 => ∃ acc, H4 D = some (.lst acc) ∧ acc.length < sizeLine ∧ Nx (upd H4 D (.lst (acc ++ [y]))) else Nx H3) := by
  refine lc_tup (K := K) (a := a) (xs := ns.map emb) (fun i H => Same H1 H ∧ H D = some (.lst (((ns.take i).filter p).map f))) ⟨Same.new hD, upd_same⟩ (fun i H _ z => seqT z.1 ha) (fun i y H hi z => ?_) (fun H z => ?_)
  · obtain ⟨s1, hDi⟩ := z
    rw [List.getElem?_map] at hi
    obtain ⟨x, hx, rfl⟩ := Option.map_eq_some_iff.mp hi
    have hm := List.mem_of_getElem? hx
    have hl : (((ns.take i).filter p).map f).length ≤ ns.length := by
      rw [List.length_map]
      exact Nat.le_trans (List.length_filter_le _ _) (by rw [List.length_take]; omega)
    have upk : ∀ H4 : Hp, Same H H4 → ∀ xs, Same H1 (upd H4 D (.lst xs)) := fun H4 e xs b o hb => by
      rw [upd_ne (ne_of_none hb hD)]
      exact e _ _ (s1 _ _ hb)
    refine hs x H _ _ hm s1 hDi (Nat.lt_of_le_of_lt hl (by rw [sizeLine_eq]; omega)) (fun H4 e1 e => ⟨upk H4 e _, ?_⟩) (fun H4 e1 e => ⟨s1.trans e, ?_⟩)
    · rw [upd_same, filt_more hx, if_pos e1]
    · rw [e _ _ hDi, filt_more hx, if_neg (by rw [e1]; decide), List.append_nil]
  · obtain ⟨s1, hDn⟩ := z
    rw [List.length_map, List.take_length] at hDn
    exact hd H s1 hDn
/-- over enumerate(a list) that the block leaves as it is -/
theorem lc_enum {K : PySem.W.Frag} {a : Addr} {xs : List V} {g : TG} {tt : TT} {te : TE} {vs : List Nat} {σ : L2.St} {H1 : Hp} {D : Addr} {Qd : Hp → Prop} (Pv : Nat → Hp → Prop) (h0 : Pv 0 (upd H1 D (.lst []))) (hl : ∀ i H, i ≤ xs.length → Pv i H → SqL K H a xs)
    (hs : ∀ i x H T, xs[i]? = some x → Pv i H → H T = none → g (.ref T) (wipe σ vs) (upd H T (.tup [.int (i : Nat), x])) fun σ2 H2 => wipe σ2 vs = wipe σ vs ∧ tt σ2 H2 fun b H3 =>
      if b = true then te σ2 H3 fun y H4 => ∃ acc, H4 D = some (.lst acc) ∧ acc.length < sizeLine ∧ Pv (i + 1) (upd H4 D (.lst (acc ++ [y]))) else Pv (i + 1) H3) (hd : ∀ H, Pv xs.length H → Qd H) :
    ∃ W : Nat → Nat → Hp → Prop, (∃ m, W 0 m (upd H1 D (.lst []))) ∧ ∀ i m H, W i m H →
      ((Ite K a).stop i H ∧ Qd H) ∨ ((Ite K a).go i H ∧ ∃ Nx : Hp → Prop, (∀ H', Nx H' → ∃ m', m' < m ∧ W (i + 1) m' H') ∧ ∀ x H', (Ite K a).yld i H x H' → g x (wipe σ vs) H' fun σ2 H2 => wipe σ2 vs = wipe σ vs ∧ tt σ2 H2 fun b H3 =>
        if b = true then te σ2 H3 fun y H4 => ∃ acc, H4 D = some (.lst acc) ∧ acc.length < sizeLine ∧ Nx (upd H4 D (.lst (acc ++ [y]))) else Nx H3) := by
  refine ⟨fun i m H => m = xs.length - i ∧ i ≤ xs.length ∧ Pv i H, ⟨xs.length, by simp, Nat.zero_le _, h0⟩, ?_⟩
  rintro i m H ⟨rfl, hi, p⟩
  have q := hl i H hi p
  by_cases hlt : i < xs.length
  · refine .inr ⟨⟨xs, xs[i], q, by simp [hlt]⟩, Pv (i + 1), fun H' p' => ⟨xs.length - (i + 1), by omega, rfl, hlt, p'⟩, fun x H' y => ?_⟩
    obtain ⟨T, x', e, hT, e2, y⟩ := y
    subst e
    subst e2
    exact hs i x' _ T (y xs q) p hT
  · have e : i = xs.length := by omega
    subst e
    exact .inl ⟨⟨xs, q, Nat.le_refl _⟩, hd H p⟩
/-- [f (x, k) for k, x in enumerate(a list) if p (x, k)] -/
theorem lc_flatE {α : Type} (emb : α → V) (f : α × Nat → V) (p : α × Nat → Bool) (ns : List α) {K : PySem.W.Frag} {a : Addr} {g : TG} {tt : TT} {te : TE} {vs : List Nat} {σ : L2.St} {H1 : Hp} {D : Addr} {Qd : Hp → Prop} (hD : H1 D = none) (ha : SqL K H1 a (ns.map emb)) (hz : ns.length < 1000000)
    (hs : ∀ x i H T acc (Nx : Hp → Prop), ns[i]? = some x → Same H1 H → H T = none → H D = some (.lst acc) → acc.length < sizeLine → (∀ H4, p (x, i) = true → Same H H4 → Nx (upd H4 D (.lst (acc ++ [f (x, i)])))) → (∀ H4, p (x, i) = false → Same H H4 → Nx H4) →
      g (.ref T) (wipe σ vs) (upd H T (.tup [.int (i : Nat), emb x])) fun σ2 H2 => wipe σ2 vs = wipe σ vs ∧ tt σ2 H2 fun b H3 => if b = true then te σ2 H3 fun y H4 => ∃ acc, H4 D = some (.lst acc) ∧ acc.length < sizeLine ∧ Nx (upd H4 D (.lst (acc ++ [y]))) else Nx H3)
    (hd : ∀ H, Same H1 H → H D = some (.lst ((ns.zipIdx.filter p).map f)) → Qd H) :
    ∃ W : Nat → Nat → Hp → Prop, (∃ m, W 0 m (upd H1 D (.lst []))) ∧ ∀ i m H, W i m H →
      ((Ite K a).stop i H ∧ Qd H) ∨ ((Ite K a).go i H ∧ ∃ Nx : Hp → Prop, (∀ H', Nx H' → ∃ m', m' < m ∧ W (i + 1) m' H') ∧ ∀ x H', (Ite K a).yld i H x H' → g x (wipe σ vs) H' fun σ2 H2 => wipe σ2 vs = wipe σ vs ∧ tt σ2 H2 fun b H3 =>
        if b = true then te σ2 H3 fun y H4 => ∃ acc, H4 D = some (.lst acc) ∧ acc.length < sizeLine ∧ Nx (upd H4 D (.lst (acc ++ [y]))) else Nx H3) := by
  refine lc_enum (K := K) (a := a) (xs := ns.map emb) (fun i H => Same H1 H ∧ H D = some (.lst (((ns.zipIdx.take i).filter p).map f))) ⟨Same.new hD, upd_same⟩ (fun i H _ z => z.1.seq ha) (fun i y H T hi z hT => ?_) (fun H z => ?_)
  · obtain ⟨s1, hDi⟩ := z
    rw [List.getElem?_map] at hi
    obtain ⟨x, hx, rfl⟩ := Option.map_eq_some_iff.mp hi
    have hx2 : ns.zipIdx[i]? = some (x, i) := by simp [List.getElem?_zipIdx, hx]
    have hl : (((ns.zipIdx.take i).filter p).map f).length ≤ ns.length := by
      rw [List.length_map]
      exact Nat.le_trans (List.length_filter_le _ _) (by rw [List.length_take, List.length_zipIdx]; omega)
    have upk : ∀ H4 : Hp, Same H H4 → ∀ xs, Same H1 (upd H4 D (.lst xs)) := fun H4 e xs b o hb => by
      rw [upd_ne (ne_of_none hb hD)]
      exact e _ _ (s1 _ _ hb)
    refine hs x i H T _ _ hx s1 hT hDi (Nat.lt_of_le_of_lt hl (by rw [sizeLine_eq]; omega)) (fun H4 e1 e => ⟨upk H4 e _, ?_⟩) (fun H4 e1 e => ⟨s1.trans e, ?_⟩)
    · rw [upd_same, filt_more hx2, if_pos e1]
    · rw [e _ _ hDi, filt_more hx2, if_neg (by rw [e1]; decide), List.append_nil]
  · obtain ⟨s1, hDn⟩ := z
    rw [List.length_map, show ns.length = ns.zipIdx.length by rw [List.length_zipIdx], List.take_length] at hDn
    exact hd H s1 hDn
/-- for over enumerate(a list) -/
theorem for_enum {K : PySem.W.Frag} {a : Addr} {xs : List V} {g : TG} {tb : TS} {D : Ends} {σ : L2.St} {H : Hp} (Pv : Nat → L2.St → Hp → Prop) (h0 : Pv 0 σ H) (hl : ∀ i σ H, i ≤ xs.length → Pv i σ H → SqL K H a xs)
    (hs : ∀ i x σ H T, xs[i]? = some x → Pv i σ H → H T = none → g (.ref T) σ (upd H T (.tup [.int (i : Nat), x])) fun σ2 H2 => tb { D with nx := Pv (i + 1), ct := Pv (i + 1), bk := D.nx } σ2 H2) (hd : ∀ σ H, Pv xs.length σ H → D.nx σ H) :
    ∃ W : Nat → Nat → L2.St → Hp → Prop, (∃ m, W 0 m σ H) ∧ ∀ i m σ H, W i m σ H →
      ((Ite K a).stop i H ∧ D.nx σ H) ∨ ((Ite K a).go i H ∧ ∃ N : L2.St → Hp → Prop, (∀ σ' H', N σ' H' → ∃ m', m' < m ∧ W (i + 1) m' σ' H') ∧ ∀ x H', (Ite K a).yld i H x H' → g x σ H' fun σ2 H2 => tb { D with nx := N, ct := N, bk := D.nx } σ2 H2) := by
  refine ⟨fun i m σ H => m = xs.length - i ∧ i ≤ xs.length ∧ Pv i σ H, ⟨xs.length, by simp, Nat.zero_le _, h0⟩, ?_⟩
  rintro i m σ H ⟨rfl, hi, p⟩
  have q := hl i σ H hi p
  by_cases hlt : i < xs.length
  · refine .inr ⟨⟨xs, xs[i], q, by simp [hlt]⟩, Pv (i + 1), fun σ' H' p' => ⟨xs.length - (i + 1), by omega, rfl, hlt, p'⟩, fun x H' y => ?_⟩
    obtain ⟨T, x', e, hT, e2, y⟩ := y
    subst e
    subst e2
    exact hs i x' σ _ T (y xs q) p hT
  · have e : i = xs.length := by omega
    subst e
    exact .inl ⟨⟨xs, q, Nat.le_refl _⟩, hd σ H p⟩
/-! ### branches -/
theorem ifb {b : Bool} {A B : Prop} (h : b = true → A) (h' : b = false → B) : if b = true then A else B := by
  cases b with
  | true =>
    rw [if_pos rfl]
    exact h rfl
  | false =>
    rw [if_neg Bool.false_ne_true]
    exact h' rfl
theorem ifT {b : Bool} {A B : Prop} (e : b = true) (h : A) : if b = true then A else B := by
  rw [if_pos e]
  exact h
theorem ifF {b : Bool} {A B : Prop} (e : b = false) (h : B) : if b = true then A else B := by
  subst e
  rw [if_neg Bool.false_ne_true]
  exact h
end Lay
/-! ## NUM: fractions in lowest terms, rests (plain mathematics) -/
namespace Lay
def frac (a b : Int) : Int × Int := if b < 0 then (-a / (Int.gcd a b : Int), -b / (Int.gcd a b : Int)) else (a / (Int.gcd a b : Int), b / (Int.gcd a b : Int))
def Low (t b : Int) : Prop := 0 < b ∧ Int.gcd t b = 1
theorem gcd_pos {a b : Int} (hb : b ≠ 0) : 0 < (Int.gcd a b : Int) := by
  have := Int.gcd_pos_of_ne_zero_right a hb
  omega
/-- how frac looks -/
theorem frac_form {a b : Int} (hb : b ≠ 0) : ∃ x y g : Int, 0 < g ∧ g = (Int.gcd a b : Int) ∧ a = g * x ∧ b = g * y ∧ Int.gcd x y = 1 ∧ y ≠ 0 ∧ frac a b = if y < 0 then (-x, -y) else (x, y) := by
  have hg := gcd_pos (a := a) hb
  obtain ⟨x, hx⟩ := Int.gcd_dvd_left a b
  obtain ⟨y, hy⟩ := Int.gcd_dvd_right a b
  have h1 : Int.gcd x y = 1 := by
    have e : Int.gcd ((Int.gcd a b : Int) * x) ((Int.gcd a b : Int) * y) = Int.gcd a b := by rw [← hx, ← hy]
    rw [Int.gcd_mul_left, Int.natAbs_natCast] at e
    have hg' : 0 < Int.gcd a b := by omega
    exact Nat.eq_of_mul_eq_mul_left hg' (by rw [e, Nat.mul_one])
  have hu : frac a b = if b < 0 then (-a / (Int.gcd a b : Int), -b / (Int.gcd a b : Int)) else (a / (Int.gcd a b : Int), b / (Int.gcd a b : Int)) := rfl
  generalize hgg : (Int.gcd a b : Int) = g at *
  have hy0 : y ≠ 0 := by
    rintro rfl
    exact hb (by rw [hy]; exact Int.mul_zero g)
  refine ⟨x, y, g, hg, rfl, hx, hy, h1, hy0, ?_⟩
  rw [hu]
  have gn : g ≠ 0 := by omega
  by_cases h : y < 0
  · have hb' : b < 0 := by rw [hy]; exact Int.mul_neg_of_pos_of_neg hg h
    rw [if_pos hb', if_pos h, hx, hy, ← Int.mul_neg, ← Int.mul_neg, Int.mul_ediv_cancel_left _ gn, Int.mul_ediv_cancel_left _ gn]
  · have hb' : ¬ b < 0 := by
      rw [hy]
      have := Int.mul_nonneg (Int.le_of_lt hg) (Int.not_lt.mp h)
      omega
    rw [if_neg hb', if_neg h, hx, hy, Int.mul_ediv_cancel_left _ gn, Int.mul_ediv_cancel_left _ gn]
theorem frac_low {a b : Int} (hb : b ≠ 0) : Low (frac a b).1 (frac a b).2 := by
  obtain ⟨x, y, g, hg, _, rfl, rfl, h1, h0, e⟩ := frac_form (a := a) hb
  rw [e]
  unfold Low
  by_cases h : y < 0
  · rw [if_pos h]
    refine ⟨by show 0 < -y; omega, ?_⟩
    show Int.gcd (-x) (-y) = 1
    rw [Int.neg_gcd, Int.gcd_neg]
    exact h1
  · rw [if_neg h]
    exact ⟨by show 0 < y; omega, h1⟩
theorem frac_cross {a b : Int} (hb : b ≠ 0) : (frac a b).1 * b = a * (frac a b).2 := by
  obtain ⟨x, y, g, hg, _, rfl, rfl, h1, h0, e⟩ := frac_form (a := a) hb
  rw [e]
  by_cases h : y < 0
  · rw [if_pos h]
    show -x * (g * y) = g * x * -y
    grind
  · rw [if_neg h]
    show x * (g * y) = g * x * y
    grind
theorem cop_dvd {b t b' : Int} (h : Int.gcd t b = 1) (d : b ∣ t * b') : b ∣ b' := by
  have d' : b.natAbs ∣ t.natAbs * b'.natAbs := by
    rw [← Int.natAbs_mul]
    exact Int.natAbs_dvd_natAbs.mpr d
  have c : Nat.Coprime b.natAbs t.natAbs := by
    show Nat.gcd b.natAbs t.natAbs = 1
    rw [Nat.gcd_comm]
    exact h
  exact Int.natAbs_dvd_natAbs.mp (c.dvd_of_dvd_mul_left d')
theorem low_unique {t b t' b' : Int} (h : Low t b) (h' : Low t' b') (e : t * b' = t' * b) : t = t' ∧ b = b' := by
  have d1 : b ∣ b' := by
    have : b ∣ t * b' := by rw [e]; exact Int.dvd_mul_left _ _
    exact cop_dvd h.2 this
  have d2 : b' ∣ b := by
    have : b' ∣ t' * b := by rw [← e]; exact Int.dvd_mul_left _ _
    exact cop_dvd h'.2 this
  have hb : b = b' := Int.dvd_antisymm (Int.le_of_lt h.1) (Int.le_of_lt h'.1) d1 d2
  subst hb
  exact ⟨Int.eq_of_mul_eq_mul_right (by have := h.1; omega) e, rfl⟩
theorem low_pair {x y : Int × Int} (h : Low x.1 x.2) (h' : Low y.1 y.2) (e : x.1 * y.2 = y.1 * x.2) : x = y := by
  obtain ⟨e1, e2⟩ := low_unique h h' e
  exact Prod.ext e1 e2
theorem frac_of {a b c d : Int} (hb : b ≠ 0) (hd : d ≠ 0) (e : a * d = c * b) : frac a b = frac c d := by
  refine low_pair (frac_low hb) (frac_low hd) ?_
  have e1 := frac_cross (a := a) hb
  have e2 := frac_cross (a := c) hd
  generalize (frac a b).1 = x at *
  generalize (frac a b).2 = y at *
  generalize (frac c d).1 = u at *
  generalize (frac c d).2 = v at *
  have k : (x * v) * (b * d) = (u * y) * (b * d) := by
    have : (x * b) * (v * d) = (u * d) * (y * b) := by
      rw [e1, e2]
      grind
    grind
  exact Int.eq_of_mul_eq_mul_right (Int.mul_ne_zero hb hd) k
theorem frac_self {t b : Int} (h : Low t b) : frac t b = (t, b) := by
  have hb : b ≠ 0 := by have := h.1; omega
  exact low_pair (frac_low hb) h (frac_cross hb)
/-- sizes -/
theorem frac_size {a b : Int} (hb : b ≠ 0) : (frac a b).1.natAbs ≤ a.natAbs ∧ (frac a b).2.natAbs ≤ b.natAbs := by
  obtain ⟨x, y, g, hg, _, rfl, rfl, h1, h0, e⟩ := frac_form (a := a) hb
  rw [e, Int.natAbs_mul, Int.natAbs_mul]
  have h2 : 1 ≤ g.natAbs := by omega
  have h3 : x.natAbs ≤ g.natAbs * x.natAbs := Nat.le_mul_of_pos_left _ h2
  have h4 : y.natAbs ≤ g.natAbs * y.natAbs := Nat.le_mul_of_pos_left _ h2
  by_cases h : y < 0
  · rw [if_pos h]
    exact ⟨by show (-x).natAbs ≤ _; rw [Int.natAbs_neg]; exact h3, by show (-y).natAbs ≤ _; rw [Int.natAbs_neg]; exact h4⟩
  · rw [if_neg h]
    exact ⟨h3, h4⟩
/-- the program's way: a gcd with the bottom's sign, floor division -/
theorem frac_fdiv {a b : Int} (hb : b ≠ 0) : frac a b = (a.fdiv (if b < 0 then -(Int.gcd a b : Int) else (Int.gcd a b : Int)), b.fdiv (if b < 0 then -(Int.gcd a b : Int) else (Int.gcd a b : Int))) := by
  obtain ⟨x, y, g, hg, hgg, ha, hb', h1, h0, e⟩ := frac_form (a := a) hb
  rw [e, ← hgg]
  by_cases h : y < 0
  · have hbn : b < 0 := by rw [hb']; exact Int.mul_neg_of_pos_of_neg hg h
    rw [if_pos h, if_pos hbn, ha, hb']
    have e1 : g * x = -g * -x := by grind
    have e2 : g * y = -g * -y := by grind
    rw [e1, e2, Int.mul_fdiv_cancel_left _ (by omega), Int.mul_fdiv_cancel_left _ (by omega)]
  · have hbn : ¬ b < 0 := by
      rw [hb']
      have := Int.mul_nonneg (Int.le_of_lt hg) (Int.not_lt.mp h)
      omega
    rw [if_neg h, if_neg hbn, ha, hb', Int.mul_fdiv_cancel_left _ (by omega), Int.mul_fdiv_cancel_left _ (by omega)]
end Lay
namespace Lay
/-! ### Euclid with a bound of turns -/
structure GI (a0 b0 : Int) (i : Nat) (a b : Int) : Prop where
  nn : 0 ≤ b
  g : Int.gcd a b = Int.gcd a0 b0
  at_ : (i = 0 ∧ b = b0) ∨ (1 ≤ i ∧ b < a ∧ a * b * 2 ^ (i - 1) ≤ b0 * b0 ∧ a * 2 ^ (i - 1) ≤ 2 * (b0 * b0))
theorem gi_zero {a0 b0 : Int} (h : 0 ≤ b0) : GI a0 b0 0 a0 b0 := ⟨h, rfl, .inl ⟨rfl, rfl⟩⟩
theorem gcd_emod_r {a b : Int} : Int.gcd b (a % b) = Int.gcd a b := by
  have e : a % b = a - b * (a / b) := by have := Int.emod_add_mul_ediv a b; omega
  rw [e, Int.gcd_sub_mul_left_right, Int.gcd_comm]
theorem gi_step {a0 b0 a b : Int} {i : Nat} (h : GI a0 b0 i a b) (hb : b ≠ 0) : GI a0 b0 (i + 1) b (a % b) := by
  have h0 := h.nn
  have bp : 0 < b := by omega
  have r0 := Int.emod_nonneg a hb
  have r1 := Int.emod_lt_of_pos a bp
  refine ⟨r0, by rw [gcd_emod_r]; exact h.g, .inr ⟨Nat.le_add_left 1 i, r1, ?_⟩⟩
  rw [Nat.add_sub_cancel]
  rcases h.at_ with ⟨rfl, rfl⟩ | ⟨hi, hab, h1, h2⟩
  · rw [Int.pow_zero, Int.mul_one, Int.mul_one]
    have : b * (a % b) ≤ b * b := Int.mul_le_mul_of_nonneg_left (Int.le_of_lt r1) h0
    have hbb : b * 1 ≤ b * b := Int.mul_le_mul_of_nonneg_left (by omega) h0
    omega
  · obtain ⟨j, rfl⟩ : ∃ j, i = j + 1 := ⟨i - 1, by omega⟩
    rw [Nat.add_sub_cancel] at h1 h2
    have e2 : (2 : Int) ^ (j + 1) = 2 * 2 ^ j := by rw [Int.pow_succ, Int.mul_comm]
    have pj : (0 : Int) ≤ 2 ^ j := Int.le_of_lt (Int.pow_pos (by decide))
    rw [e2]
    -- 2 (a % b) ≤ a
    have hm : 2 * (a % b) ≤ a := by
      have e : b * (a / b) + a % b = a := Int.mul_ediv_add_emod a b
      have q1 : 1 ≤ a / b := by
        rw [Int.le_ediv_iff_mul_le bp]
        omega
      have : b * 1 ≤ b * (a / b) := Int.mul_le_mul_of_nonneg_left q1 h0
      omega
    have k1 : b * (a % b) * (2 * 2 ^ j) ≤ a * b * 2 ^ j := by
      have : b * (2 * (a % b)) ≤ b * a := Int.mul_le_mul_of_nonneg_left hm h0
      have t := Int.mul_le_mul_of_nonneg_right this pj
      have e1 : b * (a % b) * (2 * 2 ^ j) = b * (2 * (a % b)) * 2 ^ j := by grind
      have e3 : a * b * 2 ^ j = b * a * 2 ^ j := by grind
      omega
    have k2 : b * (2 * 2 ^ j) ≤ 2 * (a * b * 2 ^ j) := by
      have : 1 * b ≤ a * b := Int.mul_le_mul_of_nonneg_right (by omega) h0
      have t := Int.mul_le_mul_of_nonneg_right this pj
      have e1 : b * (2 * 2 ^ j) = 2 * (1 * b * 2 ^ j) := by grind
      omega
    exact ⟨by omega, by omega⟩
theorem gi_end {a0 b0 a b : Int} {n : Nat} (h : GI a0 b0 (n + 2) a b) (hb : b0 * b0 < 2 ^ n) : False := by
  rcases h.at_ with ⟨h1, _⟩ | ⟨_, hab, _, h2⟩
  · omega
  · have h0 := h.nn
    have e : n + 2 - 1 = n + 1 := by omega
    rw [e] at h2
    have e2 : (2 : Int) ^ (n + 1) = 2 * 2 ^ n := by rw [Int.pow_succ, Int.mul_comm]
    rw [e2] at h2
    have pn : (0 : Int) ≤ 2 ^ n := Int.le_of_lt (Int.pow_pos (by decide))
    have : 1 * (2 * 2 ^ n) ≤ a * (2 * 2 ^ n) := Int.mul_le_mul_of_nonneg_right (by omega) (by omega)
    omega
/-! ### the inverse modulo a prime -/
/-- Euclid's turn with the factor carried -/
structure EI (n p h l x y : Int) : Prop where
  l0 : 0 ≤ l
  lh : l < h
  hp : h ≤ p
  g : Int.gcd h l = 1
  e1 : (x * n - h) % p = 0
  e2 : (y * n - l) % p = 0
theorem ei_start {n p : Int} (hp : 0 < p) (g : Int.gcd p (n % p) = 1) : EI n p p (n % p) 0 1 :=
  ⟨Int.emod_nonneg _ (by omega), Int.emod_lt_of_pos _ hp, Int.le_refl _, g, by rw [Int.zero_mul, Int.zero_sub, Int.neg_emod_self], by
    rw [Int.one_mul]
    exact Int.emod_eq_zero_of_dvd (Int.dvd_self_sub_emod)⟩
theorem ei_turn {n p h l x y : Int} (e : EI n p h l x y) (hl : 0 < l) : EI n p l (h - h / l * l) y (x - h / l * y) := by
  have em : h - h / l * l = h % l := by have := Int.mul_ediv_add_emod h l; rw [Int.mul_comm] at this; omega
  have hh := e.hp
  have hlh := e.lh
  refine ⟨?_, ?_, by omega, ?_, e.e2, ?_⟩
  · rw [em]; exact Int.emod_nonneg _ (by omega)
  · rw [em]; exact Int.emod_lt_of_pos _ hl
  · rw [em, gcd_emod_r]; exact e.g
  · have d1 := Int.dvd_of_emod_eq_zero e.e1
    have d2 := Int.dvd_of_emod_eq_zero e.e2
    refine Int.emod_eq_zero_of_dvd ?_
    have : (x - h / l * y) * n - (h - h / l * l) = (x * n - h) - h / l * (y * n - l) := by grind
    rw [this]
    exact Int.dvd_sub d1 (Int.dvd_mul_of_dvd_right d2)
theorem ei_end {n p h l x y : Int} (e : EI n p h l x y) (hl : ¬ 0 < l) (hp : 1 < p) : (x % p * n) % p = 1 := by
  have l0 : l = 0 := by have := e.l0; omega
  have g := e.g
  rw [l0, Int.gcd_zero_right] at g
  have h1 : h = 1 := by have := e.lh; omega
  have d := Int.dvd_of_emod_eq_zero e.e1
  rw [h1] at d
  have q : (x * n) % p = 1 % p := (Int.emod_eq_emod_iff_emod_sub_eq_zero).mpr (Int.emod_eq_zero_of_dvd d)
  rw [Int.mul_emod, Int.emod_emod, ← Int.mul_emod, q]
  exact Int.emod_eq_of_lt (by decide) hp
/-- two inverses are one -/
theorem inv_unique {p n u v : Int} (u0 : 0 ≤ u) (u1 : u < p) (v0 : 0 ≤ v) (v1 : v < p) (hu : (u * n) % p = 1) (hv : (v * n) % p = 1) : u = v := by
  have e1 : (u * (n * v)) % p = u := by
    rw [Int.mul_emod, Int.mul_comm n v, hv, Int.mul_one, Int.emod_emod]
    exact Int.emod_eq_of_lt u0 u1
  have e2 : (u * (n * v)) % p = v := by
    rw [← Int.mul_assoc, Int.mul_emod, hu, Int.one_mul, Int.emod_emod]
    exact Int.emod_eq_of_lt v0 v1
  exact e1.symm.trans e2
/-! ### Fermat: a to the power p is a modulo p -/
def bin : Nat → Nat → Nat
  | _, 0 => 1
  | 0, _ + 1 => 0
  | n + 1, k + 1 => bin n k + bin n (k + 1)
theorem bin_zero (n : Nat) : bin n 0 = 1 := by cases n <;> rfl
theorem bin_big : ∀ n k : Nat, n < k → bin n k = 0
  | 0, k + 1, _ => rfl
  | n + 1, k + 1, h => by
    show bin n k + bin n (k + 1) = 0
    rw [bin_big n k (by omega), bin_big n (k + 1) (by omega)]
theorem bin_mul : ∀ n k : Nat, (k + 1) * bin (n + 1) (k + 1) = (n + 1) * bin n k
  | 0, 0 => rfl
  | 0, k + 1 => by
    show (k + 2) * (bin 0 (k + 1) + bin 0 (k + 2)) = 1 * bin 0 (k + 1)
    show (k + 2) * (0 + 0) = 1 * 0
    omega
  | n + 1, 0 => by
    have h : 1 * bin (n + 1) 1 = (n + 1) * bin n 0 := bin_mul n 0
    show 1 * (bin (n + 1) 0 + bin (n + 1) 1) = (n + 2) * bin (n + 1) 0
    rw [bin_zero] at *
    omega
  | n + 1, j + 1 => by
    have h1 := bin_mul n j
    have h2 := bin_mul n (j + 1)
    show (j + 2) * (bin (n + 1) (j + 1) + bin (n + 1) (j + 2)) = (n + 2) * bin (n + 1) (j + 1)
    have h3 : bin (n + 1) (j + 1) = bin n j + bin n (j + 1) := rfl
    generalize bin (n + 1) (j + 2) = x at *
    generalize bin (n + 1) (j + 1) = y at *
    subst h3
    grind
def bsum (n a : Nat) : Nat → Nat
  | 0 => 0
  | m + 1 => bsum n a m + bin n m * a ^ m
theorem bsum_step (n a : Nat) : ∀ m, bsum (n + 1) a (m + 1) = bsum n a (m + 1) + a * bsum n a m
  | 0 => by
    show 0 + bin (n + 1) 0 * a ^ 0 = 0 + bin n 0 * a ^ 0 + a * 0
    rw [bin_zero, bin_zero]
    omega
  | m + 1 => by
    have h := bsum_step n a m
    show bsum (n + 1) a (m + 1) + (bin n m + bin n (m + 1)) * a ^ (m + 1) = bsum n a (m + 1) + bin n (m + 1) * a ^ (m + 1) + a * (bsum n a m + bin n m * a ^ m)
    rw [h, Nat.pow_succ]
    grind
theorem binomial (a : Nat) : ∀ n, (a + 1) ^ n = bsum n a (n + 1)
  | 0 => rfl
  | n + 1 => by
    rw [Nat.pow_succ, binomial a n, bsum_step]
    have : bsum n a (n + 1 + 1) = bsum n a (n + 1) := by
      show bsum n a (n + 1) + bin n (n + 1) * a ^ (n + 1) = _
      rw [bin_big n (n + 1) (by omega), Nat.zero_mul, Nat.add_zero]
    rw [this, Nat.mul_add, Nat.mul_one, Nat.mul_comm, Nat.add_comm]
def Prime (p : Nat) : Prop := 2 ≤ p ∧ ∀ d, 2 ≤ d → d < p → p % d ≠ 0
theorem prime_cop {p a : Nat} (hp : Prime p) (h : ¬ p ∣ a) : Nat.Coprime p a := by
  have g1 := Nat.gcd_dvd_left p a
  have g2 := Nat.gcd_dvd_right p a
  have hle := Nat.le_of_dvd (by have := hp.1; omega) g1
  have hp1 := hp.1
  show Nat.gcd p a = 1
  rcases Nat.lt_or_ge (Nat.gcd p a) 2 with c | c
  · have : Nat.gcd p a ≠ 0 := fun z => by
      rw [z] at g1
      have := Nat.eq_zero_of_zero_dvd g1
      omega
    omega
  · rcases Nat.lt_or_ge (Nat.gcd p a) p with d | d
    · exact absurd (Nat.mod_eq_zero_of_dvd g1) (hp.2 _ c d)
    · have e : Nat.gcd p a = p := by omega
      rw [e] at g2
      exact absurd g2 h
theorem prime_dvd_mul {p a b : Nat} (hp : Prime p) (h : p ∣ a * b) : p ∣ a ∨ p ∣ b := by
  by_cases c : p ∣ a
  · exact .inl c
  · exact .inr ((prime_cop hp c).dvd_of_dvd_mul_left h)
theorem prime_bin {p k : Nat} (hp : Prime p) (h0 : 0 < k) (h1 : k < p) : p ∣ bin p k := by
  obtain ⟨j, rfl⟩ : ∃ j, k = j + 1 := ⟨k - 1, by omega⟩
  obtain ⟨n, rfl⟩ : ∃ n, p = n + 1 := ⟨p - 1, by omega⟩
  have e := bin_mul n j
  have d : (n + 1) ∣ (j + 1) * bin (n + 1) (j + 1) := ⟨bin n j, e⟩
  rcases prime_dvd_mul hp d with c | c
  · have := Nat.le_of_dvd (by omega) c
    omega
  · exact c
theorem bsum_mod {p : Nat} (hp : Prime p) (a : Nat) : ∀ m, 0 < m → m ≤ p → bsum p a m % p = 1 % p
  | 0, h, _ => by omega
  | 1, _, _ => by
    show (0 + bin p 0 * a ^ 0) % p = _
    rw [bin_zero]
    rfl
  | m + 2, _, h => by
    have ih := bsum_mod hp a (m + 1) (by omega) (by omega)
    show (bsum p a (m + 1) + bin p (m + 1) * a ^ (m + 1)) % p = _
    have d : p ∣ bin p (m + 1) * a ^ (m + 1) := Nat.dvd_mul_right_of_dvd (prime_bin hp (by omega) (by omega)) _
    rw [Nat.add_mod, Nat.mod_eq_zero_of_dvd d, Nat.add_zero, Nat.mod_mod, ih]
theorem fermat {p : Nat} (hp : Prime p) : ∀ a : Nat, a ^ p % p = a % p
  | 0 => by rw [Nat.zero_pow (by have := hp.1; omega)]
  | a + 1 => by
    have ih := fermat hp a
    rw [binomial]
    show (bsum p a p + bin p p * a ^ p) % p = _
    have hb : ∀ n, bin n n = 1 := by
      intro n
      induction n with
      | zero => rfl
      | succ n ih =>
        show bin n n + bin n (n + 1) = 1
        rw [ih, bin_big n (n + 1) (by omega)]
    rw [hb, Nat.one_mul, Nat.add_mod, bsum_mod hp a p (by have := hp.1; omega) (Nat.le_refl _), ih, ← Nat.add_mod, Nat.add_comm]
theorem fermat1 {p a : Nat} (hp : Prime p) (h : a % p ≠ 0) : a ^ (p - 2) * a % p = 1 := by
  have hp1 := hp.1
  have f := fermat hp a
  obtain ⟨n, rfl⟩ : ∃ n, p = n + 2 := ⟨p - 2, by omega⟩
  rw [Nat.add_sub_cancel, ← Nat.pow_succ]
  have c := prime_cop hp (fun d => h (Nat.mod_eq_zero_of_dvd d))
  have hge : 1 ≤ a ^ (n + 1) := Nat.one_le_iff_ne_zero.mpr (fun z => by
    have := Nat.pow_eq_zero.mp z
    exact h (by rw [this.1, Nat.zero_mod]))
  have d : (n + 2) ∣ (a ^ (n + 1) - 1) * a := by
    rw [Nat.sub_mul, Nat.one_mul, ← Nat.pow_succ]
    exact Nat.dvd_of_mod_eq_zero (Nat.sub_mod_eq_zero_of_mod_eq f)
  have d2 : (n + 2) ∣ a ^ (n + 1) - 1 := c.dvd_of_dvd_mul_right d
  have e : a ^ (n + 1) = (a ^ (n + 1) - 1) + 1 := by omega
  rw [e, Nat.add_mod, Nat.mod_eq_zero_of_dvd d2, Nat.zero_add, Nat.mod_mod]
  exact Nat.mod_eq_of_lt (by omega)
/-- powers by squaring: k turns -/
def pwN (p : Nat) : Nat → Nat → Nat → Nat → Nat
  | 0, told, _, _ => told
  | k + 1, told, e, a => pwN p k (if e % 2 = 1 then told * a % p else told) (e / 2) (a * a % p)
theorem pwN_mod {p : Nat} : ∀ (k told e a : Nat), e < 2 ^ k → pwN p k told e a % p = told * a ^ e % p
  | 0, told, e, a, h => by
    have : e = 0 := by omega
    subst this
    show told % p = told * 1 % p
    rw [Nat.mul_one]
  | k + 1, told, e, a, h => by
    have hk : e / 2 < 2 ^ k := by
      rw [Nat.pow_succ] at h
      omega
    show pwN p k _ (e / 2) (a * a % p) % p = _
    rw [pwN_mod k _ _ _ hk]
    have ea : (a * a % p) ^ (e / 2) % p = a ^ (2 * (e / 2)) % p := by
      rw [← Nat.pow_mod, ← Nat.pow_two, ← Nat.pow_mul]
    by_cases c : e % 2 = 1
    · rw [if_pos c, Nat.mul_mod, ea, Nat.mod_mod, ← Nat.mul_mod]
      have e2 : e = 2 * (e / 2) + 1 := by omega
      have : told * a ^ e = told * a * a ^ (2 * (e / 2)) := by
        conv => lhs; rw [e2, Nat.pow_succ]
        rw [Nat.mul_comm (a ^ _) a, Nat.mul_assoc]
      rw [this]
    · rw [if_neg c, Nat.mul_mod, ea, ← Nat.mul_mod]
      have e2 : 2 * (e / 2) = e := by omega
      rw [e2]
theorem pwN_lt {p : Nat} (hp : 0 < p) : ∀ (k told e a : Nat), told < p → pwN p k told e a < p
  | 0, _, _, _, h => h
  | k + 1, told, e, a, h => by
    refine pwN_lt hp k _ _ _ ?_
    split
    · exact Nat.mod_lt _ hp
    · exact h
theorem pwN_inv {p a : Nat} (hp : Prime p) (hk : p < 2 ^ 16) (h : a % p ≠ 0) : pwN p 16 1 (p - 2) a * a % p = 1 := by
  have e := pwN_mod (p := p) 16 1 (p - 2) a (by omega)
  rw [Nat.one_mul] at e
  rw [Nat.mul_mod, e, ← Nat.mul_mod]
  exact fermat1 hp h
end Lay
namespace K00
open PySem PySem.Spec PyProof.Rows L2 Lay TL
def top (i : Nat) : Stmt := PySem.Challenge.pw_twiceless_k00_whole_chain_of_plain_numbe.main.body.getD i (.Pass ⟨0, 0, 0, 0⟩)
abbrev s_unsigned : Stmt := top 3
abbrev s_signed : Stmt := top 4
abbrev s_fraction : Stmt := top 5
abbrev s_BadGround_init : Stmt := inClass (top 8) 0
abbrev s_BadNumber_init : Stmt := inClass (top 9) 0
abbrev s_is_odd_prime : Stmt := top 11
abbrev s_inverse_modulo : Stmt := top 12
abbrev s_prime_of_line : Stmt := top 15
abbrev s_Ground_init : Stmt := inClass (top 16) 0
abbrev s_Ground_eq : Stmt := inClass (top 16) 1
abbrev s_Ground_number : Stmt := inClass (top 16) 2
abbrev s_Ground_add : Stmt := inClass (top 16) 3
abbrev s_Ground_sub : Stmt := inClass (top 16) 4
abbrev s_Ground_mul : Stmt := inClass (top 16) 5
abbrev s_Ground_div : Stmt := inClass (top 16) 6
abbrev s_Ground_less : Stmt := inClass (top 16) 7
abbrev s_Ground_read_number : Stmt := inClass (top 16) 8
abbrev s_Ground_show : Stmt := inClass (top 16) 9
abbrev s_Ground_row : Stmt := inClass (top 16) 10
abbrev s_Ground_show_row : Stmt := inClass (top 16) 11
abbrev s__law_jar : Stmt := top 18
abbrev s__law_take : Stmt := top 19
abbrev s__law_pick : Stmt := top 20
abbrev s__law_gcd : Stmt := top 21
abbrev s__law_fraction : Stmt := top 22
abbrev s__law_num : Stmt := top 23
abbrev s__law_add : Stmt := top 24
abbrev s__law_mul : Stmt := top 25
abbrev s__law_neg : Stmt := top 26
abbrev s__law_inv : Stmt := top 27
abbrev s__law_line : Stmt := top 28
abbrev s__law_like : Stmt := top 29
abbrev s__law_spoil : Stmt := top 30
abbrev s__law_whole : Stmt := top 31
abbrev s__law_shown : Stmt := top 32
abbrev s__law_digits : Stmt := top 33
abbrev s__law_worked : Stmt := top 34
abbrev s__law_told : Stmt := top 35
abbrev s__law_number : Stmt := top 36
abbrev s__law_read : Stmt := top 37
abbrev s__law_row : Stmt := top 38
abbrev s__law_asks_row : Stmt := top 39
abbrev s__law_asks_wrong : Stmt := top 40
abbrev s__law_step : Stmt := top 41
abbrev s__law_bound : Stmt := top 42
abbrev s_law : Stmt := top 43
def d_unsigned : He.DefD := ⟨("unsigned", none), "unsigned", "unsigned", defArgs s_unsigned, defBody s_unsigned, defScope s_unsigned, [.int 60], []⟩
def d_signed : He.DefD := ⟨("signed", none), "signed", "signed", defArgs s_signed, defBody s_signed, defScope s_signed, [], []⟩
def d_fraction : He.DefD := ⟨("fraction", none), "fraction", "fraction", defArgs s_fraction, defBody s_fraction, defScope s_fraction, [], []⟩
def d_BadGround_init : He.DefD := ⟨("BadGround", some "__init__"), "__init__", "BadGround.__init__", defArgs s_BadGround_init, defBody s_BadGround_init, defScope s_BadGround_init, [], []⟩
def d_BadNumber_init : He.DefD := ⟨("BadNumber", some "__init__"), "__init__", "BadNumber.__init__", defArgs s_BadNumber_init, defBody s_BadNumber_init, defScope s_BadNumber_init, [], []⟩
def d_is_odd_prime : He.DefD := ⟨("is_odd_prime", none), "is_odd_prime", "is_odd_prime", defArgs s_is_odd_prime, defBody s_is_odd_prime, defScope s_is_odd_prime, [], []⟩
def d_inverse_modulo : He.DefD := ⟨("inverse_modulo", none), "inverse_modulo", "inverse_modulo", defArgs s_inverse_modulo, defBody s_inverse_modulo, defScope s_inverse_modulo, [], []⟩
def d_prime_of_line : He.DefD := ⟨("prime_of_line", none), "prime_of_line", "prime_of_line", defArgs s_prime_of_line, defBody s_prime_of_line, defScope s_prime_of_line, [], []⟩
def d_Ground_init : He.DefD := ⟨("Ground", some "__init__"), "__init__", "Ground.__init__", defArgs s_Ground_init, defBody s_Ground_init, defScope s_Ground_init, [], []⟩
def d_Ground_eq : He.DefD := ⟨("Ground", some "__eq__"), "__eq__", "Ground.__eq__", defArgs s_Ground_eq, defBody s_Ground_eq, defScope s_Ground_eq, [], []⟩
def d_Ground_number : He.DefD := ⟨("Ground", some "number"), "number", "Ground.number", defArgs s_Ground_number, defBody s_Ground_number, defScope s_Ground_number, [.int 1], []⟩
def d_Ground_add : He.DefD := ⟨("Ground", some "add"), "add", "Ground.add", defArgs s_Ground_add, defBody s_Ground_add, defScope s_Ground_add, [], []⟩
def d_Ground_sub : He.DefD := ⟨("Ground", some "sub"), "sub", "Ground.sub", defArgs s_Ground_sub, defBody s_Ground_sub, defScope s_Ground_sub, [], []⟩
def d_Ground_mul : He.DefD := ⟨("Ground", some "mul"), "mul", "Ground.mul", defArgs s_Ground_mul, defBody s_Ground_mul, defScope s_Ground_mul, [], []⟩
def d_Ground_div : He.DefD := ⟨("Ground", some "div"), "div", "Ground.div", defArgs s_Ground_div, defBody s_Ground_div, defScope s_Ground_div, [], []⟩
def d_Ground_less : He.DefD := ⟨("Ground", some "less"), "less", "Ground.less", defArgs s_Ground_less, defBody s_Ground_less, defScope s_Ground_less, [], []⟩
def d_Ground_read_number : He.DefD := ⟨("Ground", some "read_number"), "read_number", "Ground.read_number", defArgs s_Ground_read_number, defBody s_Ground_read_number, defScope s_Ground_read_number, [], []⟩
def d_Ground_show : He.DefD := ⟨("Ground", some "show"), "show", "Ground.show", defArgs s_Ground_show, defBody s_Ground_show, defScope s_Ground_show, [], []⟩
def d_Ground_row : He.DefD := ⟨("Ground", some "row"), "row", "Ground.row", defArgs s_Ground_row, defBody s_Ground_row, defScope s_Ground_row, [], []⟩
def d_Ground_show_row : He.DefD := ⟨("Ground", some "show_row"), "show_row", "Ground.show_row", defArgs s_Ground_show_row, defBody s_Ground_show_row, defScope s_Ground_show_row, [], []⟩
def d__law_jar : He.DefD := ⟨("_law_jar", none), "_law_jar", "_law_jar", defArgs s__law_jar, defBody s__law_jar, defScope s__law_jar, [], []⟩
def d__law_take : He.DefD := ⟨("_law_take", none), "_law_take", "_law_take", defArgs s__law_take, defBody s__law_take, defScope s__law_take, [], []⟩
def d__law_pick : He.DefD := ⟨("_law_pick", none), "_law_pick", "_law_pick", defArgs s__law_pick, defBody s__law_pick, defScope s__law_pick, [], []⟩
def d__law_gcd : He.DefD := ⟨("_law_gcd", none), "_law_gcd", "_law_gcd", defArgs s__law_gcd, defBody s__law_gcd, defScope s__law_gcd, [], []⟩
def d__law_fraction : He.DefD := ⟨("_law_fraction", none), "_law_fraction", "_law_fraction", defArgs s__law_fraction, defBody s__law_fraction, defScope s__law_fraction, [], []⟩
def d__law_num : He.DefD := ⟨("_law_num", none), "_law_num", "_law_num", defArgs s__law_num, defBody s__law_num, defScope s__law_num, [], []⟩
def d__law_add : He.DefD := ⟨("_law_add", none), "_law_add", "_law_add", defArgs s__law_add, defBody s__law_add, defScope s__law_add, [], []⟩
def d__law_mul : He.DefD := ⟨("_law_mul", none), "_law_mul", "_law_mul", defArgs s__law_mul, defBody s__law_mul, defScope s__law_mul, [], []⟩
def d__law_neg : He.DefD := ⟨("_law_neg", none), "_law_neg", "_law_neg", defArgs s__law_neg, defBody s__law_neg, defScope s__law_neg, [], []⟩
def d__law_inv : He.DefD := ⟨("_law_inv", none), "_law_inv", "_law_inv", defArgs s__law_inv, defBody s__law_inv, defScope s__law_inv, [], []⟩
def d__law_line : He.DefD := ⟨("_law_line", none), "_law_line", "_law_line", defArgs s__law_line, defBody s__law_line, defScope s__law_line, [], []⟩
def d__law_like : He.DefD := ⟨("_law_like", none), "_law_like", "_law_like", defArgs s__law_like, defBody s__law_like, defScope s__law_like, [], []⟩
def d__law_spoil : He.DefD := ⟨("_law_spoil", none), "_law_spoil", "_law_spoil", defArgs s__law_spoil, defBody s__law_spoil, defScope s__law_spoil, [], []⟩
def d__law_whole : He.DefD := ⟨("_law_whole", none), "_law_whole", "_law_whole", defArgs s__law_whole, defBody s__law_whole, defScope s__law_whole, [], []⟩
def d__law_shown : He.DefD := ⟨("_law_shown", none), "_law_shown", "_law_shown", defArgs s__law_shown, defBody s__law_shown, defScope s__law_shown, [], []⟩
def d__law_digits : He.DefD := ⟨("_law_digits", none), "_law_digits", "_law_digits", defArgs s__law_digits, defBody s__law_digits, defScope s__law_digits, [], []⟩
def d__law_worked : He.DefD := ⟨("_law_worked", none), "_law_worked", "_law_worked", defArgs s__law_worked, defBody s__law_worked, defScope s__law_worked, [], []⟩
def d__law_told : He.DefD := ⟨("_law_told", none), "_law_told", "_law_told", defArgs s__law_told, defBody s__law_told, defScope s__law_told, [], []⟩
def d__law_number : He.DefD := ⟨("_law_number", none), "_law_number", "_law_number", defArgs s__law_number, defBody s__law_number, defScope s__law_number, [], []⟩
def d__law_read : He.DefD := ⟨("_law_read", none), "_law_read", "_law_read", defArgs s__law_read, defBody s__law_read, defScope s__law_read, [], []⟩
def d__law_row : He.DefD := ⟨("_law_row", none), "_law_row", "_law_row", defArgs s__law_row, defBody s__law_row, defScope s__law_row, [], []⟩
def d__law_asks_row : He.DefD := ⟨("_law_asks_row", none), "_law_asks_row", "_law_asks_row", defArgs s__law_asks_row, defBody s__law_asks_row, defScope s__law_asks_row, [], []⟩
def d__law_asks_wrong : He.DefD := ⟨("_law_asks_wrong", none), "_law_asks_wrong", "_law_asks_wrong", defArgs s__law_asks_wrong, defBody s__law_asks_wrong, defScope s__law_asks_wrong, [], []⟩
def d__law_step : He.DefD := ⟨("_law_step", none), "_law_step", "_law_step", defArgs s__law_step, defBody s__law_step, defScope s__law_step, [], []⟩
def d__law_bound : He.DefD := ⟨("_law_bound", none), "_law_bound", "_law_bound", defArgs s__law_bound, defBody s__law_bound, defScope s__law_bound, [], []⟩
def d_law : He.DefD := ⟨("law", none), "law", "law", defArgs s_law, defBody s_law, defScope s_law, [], []⟩
def fn0 : List He.DefD := [d_unsigned, d_signed, d_fraction, d_BadGround_init, d_BadNumber_init, d_is_odd_prime, d_inverse_modulo, d_prime_of_line, d_Ground_init, d_Ground_eq, d_Ground_number, d_Ground_add, d_Ground_sub, d_Ground_mul, d_Ground_div, d_Ground_less, d_Ground_read_number, d_Ground_show, d_Ground_row, d_Ground_show_row, d__law_jar, d__law_take, d__law_pick, d__law_gcd, d__law_fraction, d__law_num, d__law_add, d__law_mul, d__law_neg, d__law_inv]
def fn1 : List He.DefD := [d__law_line, d__law_like, d__law_spoil, d__law_whole, d__law_shown, d__law_digits, d__law_worked, d__law_told, d__law_number, d__law_read, d__law_row, d__law_asks_row, d__law_asks_wrong, d__law_step, d__law_bound, d_law]
def fn : List He.DefD := fn0 ++ fn1
def nm0 : List PySem.Str := ["gcd", "__name__", "MOST_DIGITS", "unsigned", "signed", "fraction", "Refused", "BadGround", "BadNumber", "is_odd_prime", "inverse_modulo", "GREATEST_PRIME", "prime_of_line", "Ground", "_law_jar", "_law_take", "_law_pick", "_law_gcd", "_law_fraction", "_law_num", "_law_add", "_law_mul", "_law_neg", "_law_inv", "_law_line", "_law_like", "_law_spoil", "_law_whole", "_law_shown", "_law_digits"]
def nm1 : List PySem.Str := ["_law_worked", "_law_told", "_law_number", "_law_read", "_law_row", "_law_asks_row", "_law_asks_wrong", "_law_step", "_law_bound"]
def nm : List PySem.Str := nm0 ++ nm1
abbrev lawAt : Nat := 43
def fa0 : List He.Fa := [.glo "unsigned", .glo "signed", .glo "fraction", .glo "is_odd_prime", .glo "inverse_modulo", .glo "prime_of_line", .glo "_law_jar", .glo "_law_take", .glo "_law_pick", .glo "_law_gcd", .glo "_law_fraction", .glo "_law_num", .glo "_law_add", .glo "_law_mul", .glo "_law_neg", .glo "_law_inv", .glo "_law_line", .glo "_law_like", .glo "_law_spoil", .glo "_law_whole", .glo "_law_shown", .glo "_law_digits", .glo "_law_worked", .glo "_law_told", .glo "_law_number", .glo "_law_read", .glo "_law_row", .glo "_law_asks_row", .glo "_law_asks_wrong", .glo "_law_step"]
def fa1 : List He.Fa := [.glo "_law_bound", .glo "law", .int "MOST_DIGITS" 60, .glo "Refused", .glo "BadGround", .glo "BadNumber", .int "GREATEST_PRIME" 10007, .glo "Ground", .cls "Ground", .noat "Ground" "line", .noat "Ground" "prime", .mkr "Ground", .meth "Ground" "__eq__", .meth "Ground" "number", .meth "Ground" "add", .meth "Ground" "sub", .meth "Ground" "mul", .meth "Ground" "div", .meth "Ground" "less", .meth "Ground" "read_number", .meth "Ground" "show", .meth "Ground" "row", .meth "Ground" "show_row", .free "len", .free "int", .free "isinstance", .free "range", .free "str", .free "list", .free "tuple"]
def fa2 : List He.Fa := [.free "abs", .free "max", .free "enumerate", .free "zip", .free "bool"]
def fa : List He.Fa := fa0 ++ fa1 ++ fa2
def ex (K : PySem.W.Frag) : Bool := bltB K "gcd" "math.gcd" && (oexIB K (He.ga K "BadGround") (He.fAd K d_BadGround_init.at_) && (noB K (He.ga K "BadGround") "code" && (noB K (He.ga K "BadGround") "why" && (oexIB K (He.ga K "BadNumber") (He.fAd K d_BadNumber_init.at_) && (noB K (He.ga K "BadNumber") "code" && (noB K (He.ga K "BadNumber") "at" && (noB K (He.ga K "BadNumber") "why" && (tyIB K (He.ga K "Ground")))))))))
/-- what the top has left, by names -/
structure Tx (K : PySem.W.Frag) (mg : Str → Option Value) : Prop where
  D_unsigned : ∃ fd, FunD K d_unsigned.name d_unsigned.qual d_unsigned.params d_unsigned.body d_unsigned.scope (d_unsigned.dvs K) (d_unsigned.kws K) (He.fAd K d_unsigned.at_) fd
  D_signed : ∃ fd, FunD K d_signed.name d_signed.qual d_signed.params d_signed.body d_signed.scope (d_signed.dvs K) (d_signed.kws K) (He.fAd K d_signed.at_) fd
  D_fraction : ∃ fd, FunD K d_fraction.name d_fraction.qual d_fraction.params d_fraction.body d_fraction.scope (d_fraction.dvs K) (d_fraction.kws K) (He.fAd K d_fraction.at_) fd
  D_BadGround_init : ∃ fd, FunD K d_BadGround_init.name d_BadGround_init.qual d_BadGround_init.params d_BadGround_init.body d_BadGround_init.scope (d_BadGround_init.dvs K) (d_BadGround_init.kws K) (He.fAd K d_BadGround_init.at_) fd
  D_BadNumber_init : ∃ fd, FunD K d_BadNumber_init.name d_BadNumber_init.qual d_BadNumber_init.params d_BadNumber_init.body d_BadNumber_init.scope (d_BadNumber_init.dvs K) (d_BadNumber_init.kws K) (He.fAd K d_BadNumber_init.at_) fd
  D_is_odd_prime : ∃ fd, FunD K d_is_odd_prime.name d_is_odd_prime.qual d_is_odd_prime.params d_is_odd_prime.body d_is_odd_prime.scope (d_is_odd_prime.dvs K) (d_is_odd_prime.kws K) (He.fAd K d_is_odd_prime.at_) fd
  D_inverse_modulo : ∃ fd, FunD K d_inverse_modulo.name d_inverse_modulo.qual d_inverse_modulo.params d_inverse_modulo.body d_inverse_modulo.scope (d_inverse_modulo.dvs K) (d_inverse_modulo.kws K) (He.fAd K d_inverse_modulo.at_) fd
  D_prime_of_line : ∃ fd, FunD K d_prime_of_line.name d_prime_of_line.qual d_prime_of_line.params d_prime_of_line.body d_prime_of_line.scope (d_prime_of_line.dvs K) (d_prime_of_line.kws K) (He.fAd K d_prime_of_line.at_) fd
  D_Ground_init : ∃ fd, FunD K d_Ground_init.name d_Ground_init.qual d_Ground_init.params d_Ground_init.body d_Ground_init.scope (d_Ground_init.dvs K) (d_Ground_init.kws K) (He.fAd K d_Ground_init.at_) fd
  D_Ground_eq : ∃ fd, FunD K d_Ground_eq.name d_Ground_eq.qual d_Ground_eq.params d_Ground_eq.body d_Ground_eq.scope (d_Ground_eq.dvs K) (d_Ground_eq.kws K) (He.fAd K d_Ground_eq.at_) fd
  D_Ground_number : ∃ fd, FunD K d_Ground_number.name d_Ground_number.qual d_Ground_number.params d_Ground_number.body d_Ground_number.scope (d_Ground_number.dvs K) (d_Ground_number.kws K) (He.fAd K d_Ground_number.at_) fd
  D_Ground_add : ∃ fd, FunD K d_Ground_add.name d_Ground_add.qual d_Ground_add.params d_Ground_add.body d_Ground_add.scope (d_Ground_add.dvs K) (d_Ground_add.kws K) (He.fAd K d_Ground_add.at_) fd
  D_Ground_sub : ∃ fd, FunD K d_Ground_sub.name d_Ground_sub.qual d_Ground_sub.params d_Ground_sub.body d_Ground_sub.scope (d_Ground_sub.dvs K) (d_Ground_sub.kws K) (He.fAd K d_Ground_sub.at_) fd
  D_Ground_mul : ∃ fd, FunD K d_Ground_mul.name d_Ground_mul.qual d_Ground_mul.params d_Ground_mul.body d_Ground_mul.scope (d_Ground_mul.dvs K) (d_Ground_mul.kws K) (He.fAd K d_Ground_mul.at_) fd
  D_Ground_div : ∃ fd, FunD K d_Ground_div.name d_Ground_div.qual d_Ground_div.params d_Ground_div.body d_Ground_div.scope (d_Ground_div.dvs K) (d_Ground_div.kws K) (He.fAd K d_Ground_div.at_) fd
  D_Ground_less : ∃ fd, FunD K d_Ground_less.name d_Ground_less.qual d_Ground_less.params d_Ground_less.body d_Ground_less.scope (d_Ground_less.dvs K) (d_Ground_less.kws K) (He.fAd K d_Ground_less.at_) fd
  D_Ground_read_number : ∃ fd, FunD K d_Ground_read_number.name d_Ground_read_number.qual d_Ground_read_number.params d_Ground_read_number.body d_Ground_read_number.scope (d_Ground_read_number.dvs K) (d_Ground_read_number.kws K) (He.fAd K d_Ground_read_number.at_) fd
  D_Ground_show : ∃ fd, FunD K d_Ground_show.name d_Ground_show.qual d_Ground_show.params d_Ground_show.body d_Ground_show.scope (d_Ground_show.dvs K) (d_Ground_show.kws K) (He.fAd K d_Ground_show.at_) fd
  D_Ground_row : ∃ fd, FunD K d_Ground_row.name d_Ground_row.qual d_Ground_row.params d_Ground_row.body d_Ground_row.scope (d_Ground_row.dvs K) (d_Ground_row.kws K) (He.fAd K d_Ground_row.at_) fd
  D_Ground_show_row : ∃ fd, FunD K d_Ground_show_row.name d_Ground_show_row.qual d_Ground_show_row.params d_Ground_show_row.body d_Ground_show_row.scope (d_Ground_show_row.dvs K) (d_Ground_show_row.kws K) (He.fAd K d_Ground_show_row.at_) fd
  D__law_jar : ∃ fd, FunD K d__law_jar.name d__law_jar.qual d__law_jar.params d__law_jar.body d__law_jar.scope (d__law_jar.dvs K) (d__law_jar.kws K) (He.fAd K d__law_jar.at_) fd
  D__law_take : ∃ fd, FunD K d__law_take.name d__law_take.qual d__law_take.params d__law_take.body d__law_take.scope (d__law_take.dvs K) (d__law_take.kws K) (He.fAd K d__law_take.at_) fd
  D__law_pick : ∃ fd, FunD K d__law_pick.name d__law_pick.qual d__law_pick.params d__law_pick.body d__law_pick.scope (d__law_pick.dvs K) (d__law_pick.kws K) (He.fAd K d__law_pick.at_) fd
  D__law_gcd : ∃ fd, FunD K d__law_gcd.name d__law_gcd.qual d__law_gcd.params d__law_gcd.body d__law_gcd.scope (d__law_gcd.dvs K) (d__law_gcd.kws K) (He.fAd K d__law_gcd.at_) fd
  D__law_fraction : ∃ fd, FunD K d__law_fraction.name d__law_fraction.qual d__law_fraction.params d__law_fraction.body d__law_fraction.scope (d__law_fraction.dvs K) (d__law_fraction.kws K) (He.fAd K d__law_fraction.at_) fd
  D__law_num : ∃ fd, FunD K d__law_num.name d__law_num.qual d__law_num.params d__law_num.body d__law_num.scope (d__law_num.dvs K) (d__law_num.kws K) (He.fAd K d__law_num.at_) fd
  D__law_add : ∃ fd, FunD K d__law_add.name d__law_add.qual d__law_add.params d__law_add.body d__law_add.scope (d__law_add.dvs K) (d__law_add.kws K) (He.fAd K d__law_add.at_) fd
  D__law_mul : ∃ fd, FunD K d__law_mul.name d__law_mul.qual d__law_mul.params d__law_mul.body d__law_mul.scope (d__law_mul.dvs K) (d__law_mul.kws K) (He.fAd K d__law_mul.at_) fd
  D__law_neg : ∃ fd, FunD K d__law_neg.name d__law_neg.qual d__law_neg.params d__law_neg.body d__law_neg.scope (d__law_neg.dvs K) (d__law_neg.kws K) (He.fAd K d__law_neg.at_) fd
  D__law_inv : ∃ fd, FunD K d__law_inv.name d__law_inv.qual d__law_inv.params d__law_inv.body d__law_inv.scope (d__law_inv.dvs K) (d__law_inv.kws K) (He.fAd K d__law_inv.at_) fd
  D__law_line : ∃ fd, FunD K d__law_line.name d__law_line.qual d__law_line.params d__law_line.body d__law_line.scope (d__law_line.dvs K) (d__law_line.kws K) (He.fAd K d__law_line.at_) fd
  D__law_like : ∃ fd, FunD K d__law_like.name d__law_like.qual d__law_like.params d__law_like.body d__law_like.scope (d__law_like.dvs K) (d__law_like.kws K) (He.fAd K d__law_like.at_) fd
  D__law_spoil : ∃ fd, FunD K d__law_spoil.name d__law_spoil.qual d__law_spoil.params d__law_spoil.body d__law_spoil.scope (d__law_spoil.dvs K) (d__law_spoil.kws K) (He.fAd K d__law_spoil.at_) fd
  D__law_whole : ∃ fd, FunD K d__law_whole.name d__law_whole.qual d__law_whole.params d__law_whole.body d__law_whole.scope (d__law_whole.dvs K) (d__law_whole.kws K) (He.fAd K d__law_whole.at_) fd
  D__law_shown : ∃ fd, FunD K d__law_shown.name d__law_shown.qual d__law_shown.params d__law_shown.body d__law_shown.scope (d__law_shown.dvs K) (d__law_shown.kws K) (He.fAd K d__law_shown.at_) fd
  D__law_digits : ∃ fd, FunD K d__law_digits.name d__law_digits.qual d__law_digits.params d__law_digits.body d__law_digits.scope (d__law_digits.dvs K) (d__law_digits.kws K) (He.fAd K d__law_digits.at_) fd
  D__law_worked : ∃ fd, FunD K d__law_worked.name d__law_worked.qual d__law_worked.params d__law_worked.body d__law_worked.scope (d__law_worked.dvs K) (d__law_worked.kws K) (He.fAd K d__law_worked.at_) fd
  D__law_told : ∃ fd, FunD K d__law_told.name d__law_told.qual d__law_told.params d__law_told.body d__law_told.scope (d__law_told.dvs K) (d__law_told.kws K) (He.fAd K d__law_told.at_) fd
  D__law_number : ∃ fd, FunD K d__law_number.name d__law_number.qual d__law_number.params d__law_number.body d__law_number.scope (d__law_number.dvs K) (d__law_number.kws K) (He.fAd K d__law_number.at_) fd
  D__law_read : ∃ fd, FunD K d__law_read.name d__law_read.qual d__law_read.params d__law_read.body d__law_read.scope (d__law_read.dvs K) (d__law_read.kws K) (He.fAd K d__law_read.at_) fd
  D__law_row : ∃ fd, FunD K d__law_row.name d__law_row.qual d__law_row.params d__law_row.body d__law_row.scope (d__law_row.dvs K) (d__law_row.kws K) (He.fAd K d__law_row.at_) fd
  D__law_asks_row : ∃ fd, FunD K d__law_asks_row.name d__law_asks_row.qual d__law_asks_row.params d__law_asks_row.body d__law_asks_row.scope (d__law_asks_row.dvs K) (d__law_asks_row.kws K) (He.fAd K d__law_asks_row.at_) fd
  D__law_asks_wrong : ∃ fd, FunD K d__law_asks_wrong.name d__law_asks_wrong.qual d__law_asks_wrong.params d__law_asks_wrong.body d__law_asks_wrong.scope (d__law_asks_wrong.dvs K) (d__law_asks_wrong.kws K) (He.fAd K d__law_asks_wrong.at_) fd
  D__law_step : ∃ fd, FunD K d__law_step.name d__law_step.qual d__law_step.params d__law_step.body d__law_step.scope (d__law_step.dvs K) (d__law_step.kws K) (He.fAd K d__law_step.at_) fd
  D__law_bound : ∃ fd, FunD K d__law_bound.name d__law_bound.qual d__law_bound.params d__law_bound.body d__law_bound.scope (d__law_bound.dvs K) (d__law_bound.kws K) (He.fAd K d__law_bound.at_) fd
  D_law : ∃ fd, FunD K d_law.name d_law.qual d_law.params d_law.body d_law.scope (d_law.dvs K) (d_law.kws K) (He.fAd K d_law.at_) fd
  g_unsigned : mg "unsigned" = some (.ref (He.fAd K d_unsigned.at_))
  g_signed : mg "signed" = some (.ref (He.fAd K d_signed.at_))
  g_fraction : mg "fraction" = some (.ref (He.fAd K d_fraction.at_))
  g_is_odd_prime : mg "is_odd_prime" = some (.ref (He.fAd K d_is_odd_prime.at_))
  g_inverse_modulo : mg "inverse_modulo" = some (.ref (He.fAd K d_inverse_modulo.at_))
  g_prime_of_line : mg "prime_of_line" = some (.ref (He.fAd K d_prime_of_line.at_))
  g__law_jar : mg "_law_jar" = some (.ref (He.fAd K d__law_jar.at_))
  g__law_take : mg "_law_take" = some (.ref (He.fAd K d__law_take.at_))
  g__law_pick : mg "_law_pick" = some (.ref (He.fAd K d__law_pick.at_))
  g__law_gcd : mg "_law_gcd" = some (.ref (He.fAd K d__law_gcd.at_))
  g__law_fraction : mg "_law_fraction" = some (.ref (He.fAd K d__law_fraction.at_))
  g__law_num : mg "_law_num" = some (.ref (He.fAd K d__law_num.at_))
  g__law_add : mg "_law_add" = some (.ref (He.fAd K d__law_add.at_))
  g__law_mul : mg "_law_mul" = some (.ref (He.fAd K d__law_mul.at_))
  g__law_neg : mg "_law_neg" = some (.ref (He.fAd K d__law_neg.at_))
  g__law_inv : mg "_law_inv" = some (.ref (He.fAd K d__law_inv.at_))
  g__law_line : mg "_law_line" = some (.ref (He.fAd K d__law_line.at_))
  g__law_like : mg "_law_like" = some (.ref (He.fAd K d__law_like.at_))
  g__law_spoil : mg "_law_spoil" = some (.ref (He.fAd K d__law_spoil.at_))
  g__law_whole : mg "_law_whole" = some (.ref (He.fAd K d__law_whole.at_))
  g__law_shown : mg "_law_shown" = some (.ref (He.fAd K d__law_shown.at_))
  g__law_digits : mg "_law_digits" = some (.ref (He.fAd K d__law_digits.at_))
  g__law_worked : mg "_law_worked" = some (.ref (He.fAd K d__law_worked.at_))
  g__law_told : mg "_law_told" = some (.ref (He.fAd K d__law_told.at_))
  g__law_number : mg "_law_number" = some (.ref (He.fAd K d__law_number.at_))
  g__law_read : mg "_law_read" = some (.ref (He.fAd K d__law_read.at_))
  g__law_row : mg "_law_row" = some (.ref (He.fAd K d__law_row.at_))
  g__law_asks_row : mg "_law_asks_row" = some (.ref (He.fAd K d__law_asks_row.at_))
  g__law_asks_wrong : mg "_law_asks_wrong" = some (.ref (He.fAd K d__law_asks_wrong.at_))
  g__law_step : mg "_law_step" = some (.ref (He.fAd K d__law_step.at_))
  g__law_bound : mg "_law_bound" = some (.ref (He.fAd K d__law_bound.at_))
  g_law : mg "law" = some (.ref (He.fAd K d_law.at_))
  g_MOST_DIGITS : ∃ t, mg "MOST_DIGITS" = some (.int 60 t)
  g_Refused : mg "Refused" = some (.ref (He.ga K "Refused"))
  g_BadGround : mg "BadGround" = some (.ref (He.ga K "BadGround"))
  g_BadNumber : mg "BadNumber" = some (.ref (He.ga K "BadNumber"))
  g_GREATEST_PRIME : ∃ t, mg "GREATEST_PRIME" = some (.int 10007 t)
  g_Ground : mg "Ground" = some (.ref (He.ga K "Ground"))
  c_Ground : Cls K (He.ga K "Ground")
  n_Ground_line : NoAttr K (He.ga K "Ground") "line"
  n_Ground_prime : NoAttr K (He.ga K "Ground") "prime"
  k_Ground : Mk K (He.ga K "Ground") (He.fAd K d_Ground_init.at_)
  m_Ground_eq : Meth K (He.ga K "Ground") "__eq__" (He.fAd K d_Ground_eq.at_)
  m_Ground_number : Meth K (He.ga K "Ground") "number" (He.fAd K d_Ground_number.at_)
  m_Ground_add : Meth K (He.ga K "Ground") "add" (He.fAd K d_Ground_add.at_)
  m_Ground_sub : Meth K (He.ga K "Ground") "sub" (He.fAd K d_Ground_sub.at_)
  m_Ground_mul : Meth K (He.ga K "Ground") "mul" (He.fAd K d_Ground_mul.at_)
  m_Ground_div : Meth K (He.ga K "Ground") "div" (He.fAd K d_Ground_div.at_)
  m_Ground_less : Meth K (He.ga K "Ground") "less" (He.fAd K d_Ground_less.at_)
  m_Ground_read_number : Meth K (He.ga K "Ground") "read_number" (He.fAd K d_Ground_read_number.at_)
  m_Ground_show : Meth K (He.ga K "Ground") "show" (He.fAd K d_Ground_show.at_)
  m_Ground_row : Meth K (He.ga K "Ground") "row" (He.fAd K d_Ground_row.at_)
  m_Ground_show_row : Meth K (He.ga K "Ground") "show_row" (He.fAd K d_Ground_show_row.at_)
  f_len : mg "len" = none
  f_int : mg "int" = none
  f_isinstance : mg "isinstance" = none
  f_range : mg "range" = none
  f_str : mg "str" = none
  f_list : mg "list" = none
  f_tuple : mg "tuple" = none
  f_abs : mg "abs" = none
  f_max : mg "max" = none
  f_enumerate : mg "enumerate" = none
  f_zip : mg "zip" = none
  f_bool : mg "bool" = none
  g_gcd : mg "gcd" = some (.builtin "math.gcd")
  x_BadGround : OexI K (He.ga K "BadGround") (He.fAd K d_BadGround_init.at_)
  xn_BadGround_code : PySem.W.findIn K (.ref (He.ga K "BadGround")) "code" = some none
  xn_BadGround_why : PySem.W.findIn K (.ref (He.ga K "BadGround")) "why" = some none
  x_BadNumber : OexI K (He.ga K "BadNumber") (He.fAd K d_BadNumber_init.at_)
  xn_BadNumber_code : PySem.W.findIn K (.ref (He.ga K "BadNumber")) "code" = some none
  xn_BadNumber_at : PySem.W.findIn K (.ref (He.ga K "BadNumber")) "at" = some none
  xn_BadNumber_why : PySem.W.findIn K (.ref (He.ga K "BadNumber")) "why" = some none
  ty_Ground : TyI K (He.ga K "Ground")
theorem tx_of {K : PySem.W.Frag} {h : Heap} {mg : Str → Option Value} (X : K.In h) (G : h.Ns mainGlobals mg) (c : SaysX fa fn ex K) : Tx K mg := by
  have e0 := c.extra
  obtain ⟨z0, e1⟩ := He.ba e0
  obtain ⟨z1, e2⟩ := He.ba e1
  obtain ⟨z2, e3⟩ := He.ba e2
  obtain ⟨z3, e4⟩ := He.ba e3
  obtain ⟨z4, e5⟩ := He.ba e4
  obtain ⟨z5, e6⟩ := He.ba e5
  obtain ⟨z6, e7⟩ := He.ba e6
  obtain ⟨z7, e8⟩ := He.ba e7
  have z8 := e8
  exact {
    D_unsigned := c.def_ 0 (d := d_unsigned) rfl
    D_signed := c.def_ 1 (d := d_signed) rfl
    D_fraction := c.def_ 2 (d := d_fraction) rfl
    D_BadGround_init := c.def_ 3 (d := d_BadGround_init) rfl
    D_BadNumber_init := c.def_ 4 (d := d_BadNumber_init) rfl
    D_is_odd_prime := c.def_ 5 (d := d_is_odd_prime) rfl
    D_inverse_modulo := c.def_ 6 (d := d_inverse_modulo) rfl
    D_prime_of_line := c.def_ 7 (d := d_prime_of_line) rfl
    D_Ground_init := c.def_ 8 (d := d_Ground_init) rfl
    D_Ground_eq := c.def_ 9 (d := d_Ground_eq) rfl
    D_Ground_number := c.def_ 10 (d := d_Ground_number) rfl
    D_Ground_add := c.def_ 11 (d := d_Ground_add) rfl
    D_Ground_sub := c.def_ 12 (d := d_Ground_sub) rfl
    D_Ground_mul := c.def_ 13 (d := d_Ground_mul) rfl
    D_Ground_div := c.def_ 14 (d := d_Ground_div) rfl
    D_Ground_less := c.def_ 15 (d := d_Ground_less) rfl
    D_Ground_read_number := c.def_ 16 (d := d_Ground_read_number) rfl
    D_Ground_show := c.def_ 17 (d := d_Ground_show) rfl
    D_Ground_row := c.def_ 18 (d := d_Ground_row) rfl
    D_Ground_show_row := c.def_ 19 (d := d_Ground_show_row) rfl
    D__law_jar := c.def_ 20 (d := d__law_jar) rfl
    D__law_take := c.def_ 21 (d := d__law_take) rfl
    D__law_pick := c.def_ 22 (d := d__law_pick) rfl
    D__law_gcd := c.def_ 23 (d := d__law_gcd) rfl
    D__law_fraction := c.def_ 24 (d := d__law_fraction) rfl
    D__law_num := c.def_ 25 (d := d__law_num) rfl
    D__law_add := c.def_ 26 (d := d__law_add) rfl
    D__law_mul := c.def_ 27 (d := d__law_mul) rfl
    D__law_neg := c.def_ 28 (d := d__law_neg) rfl
    D__law_inv := c.def_ 29 (d := d__law_inv) rfl
    D__law_line := c.def_ 30 (d := d__law_line) rfl
    D__law_like := c.def_ 31 (d := d__law_like) rfl
    D__law_spoil := c.def_ 32 (d := d__law_spoil) rfl
    D__law_whole := c.def_ 33 (d := d__law_whole) rfl
    D__law_shown := c.def_ 34 (d := d__law_shown) rfl
    D__law_digits := c.def_ 35 (d := d__law_digits) rfl
    D__law_worked := c.def_ 36 (d := d__law_worked) rfl
    D__law_told := c.def_ 37 (d := d__law_told) rfl
    D__law_number := c.def_ 38 (d := d__law_number) rfl
    D__law_read := c.def_ 39 (d := d__law_read) rfl
    D__law_row := c.def_ 40 (d := d__law_row) rfl
    D__law_asks_row := c.def_ 41 (d := d__law_asks_row) rfl
    D__law_asks_wrong := c.def_ 42 (d := d__law_asks_wrong) rfl
    D__law_step := c.def_ 43 (d := d__law_step) rfl
    D__law_bound := c.def_ 44 (d := d__law_bound) rfl
    D_law := c.def_ 45 (d := d_law) rfl
    g_unsigned := He.glo_ok X G (c.fact 0 (f := .glo "unsigned") rfl)
    g_signed := He.glo_ok X G (c.fact 1 (f := .glo "signed") rfl)
    g_fraction := He.glo_ok X G (c.fact 2 (f := .glo "fraction") rfl)
    g_is_odd_prime := He.glo_ok X G (c.fact 3 (f := .glo "is_odd_prime") rfl)
    g_inverse_modulo := He.glo_ok X G (c.fact 4 (f := .glo "inverse_modulo") rfl)
    g_prime_of_line := He.glo_ok X G (c.fact 5 (f := .glo "prime_of_line") rfl)
    g__law_jar := He.glo_ok X G (c.fact 6 (f := .glo "_law_jar") rfl)
    g__law_take := He.glo_ok X G (c.fact 7 (f := .glo "_law_take") rfl)
    g__law_pick := He.glo_ok X G (c.fact 8 (f := .glo "_law_pick") rfl)
    g__law_gcd := He.glo_ok X G (c.fact 9 (f := .glo "_law_gcd") rfl)
    g__law_fraction := He.glo_ok X G (c.fact 10 (f := .glo "_law_fraction") rfl)
    g__law_num := He.glo_ok X G (c.fact 11 (f := .glo "_law_num") rfl)
    g__law_add := He.glo_ok X G (c.fact 12 (f := .glo "_law_add") rfl)
    g__law_mul := He.glo_ok X G (c.fact 13 (f := .glo "_law_mul") rfl)
    g__law_neg := He.glo_ok X G (c.fact 14 (f := .glo "_law_neg") rfl)
    g__law_inv := He.glo_ok X G (c.fact 15 (f := .glo "_law_inv") rfl)
    g__law_line := He.glo_ok X G (c.fact 16 (f := .glo "_law_line") rfl)
    g__law_like := He.glo_ok X G (c.fact 17 (f := .glo "_law_like") rfl)
    g__law_spoil := He.glo_ok X G (c.fact 18 (f := .glo "_law_spoil") rfl)
    g__law_whole := He.glo_ok X G (c.fact 19 (f := .glo "_law_whole") rfl)
    g__law_shown := He.glo_ok X G (c.fact 20 (f := .glo "_law_shown") rfl)
    g__law_digits := He.glo_ok X G (c.fact 21 (f := .glo "_law_digits") rfl)
    g__law_worked := He.glo_ok X G (c.fact 22 (f := .glo "_law_worked") rfl)
    g__law_told := He.glo_ok X G (c.fact 23 (f := .glo "_law_told") rfl)
    g__law_number := He.glo_ok X G (c.fact 24 (f := .glo "_law_number") rfl)
    g__law_read := He.glo_ok X G (c.fact 25 (f := .glo "_law_read") rfl)
    g__law_row := He.glo_ok X G (c.fact 26 (f := .glo "_law_row") rfl)
    g__law_asks_row := He.glo_ok X G (c.fact 27 (f := .glo "_law_asks_row") rfl)
    g__law_asks_wrong := He.glo_ok X G (c.fact 28 (f := .glo "_law_asks_wrong") rfl)
    g__law_step := He.glo_ok X G (c.fact 29 (f := .glo "_law_step") rfl)
    g__law_bound := He.glo_ok X G (c.fact 30 (f := .glo "_law_bound") rfl)
    g_law := He.glo_ok X G (c.fact 31 (f := .glo "law") rfl)
    g_MOST_DIGITS := He.int_ok X G (c.fact 32 (f := .int "MOST_DIGITS" 60) rfl)
    g_Refused := He.glo_ok X G (c.fact 33 (f := .glo "Refused") rfl)
    g_BadGround := He.glo_ok X G (c.fact 34 (f := .glo "BadGround") rfl)
    g_BadNumber := He.glo_ok X G (c.fact 35 (f := .glo "BadNumber") rfl)
    g_GREATEST_PRIME := He.int_ok X G (c.fact 36 (f := .int "GREATEST_PRIME" 10007) rfl)
    g_Ground := He.glo_ok X G (c.fact 37 (f := .glo "Ground") rfl)
    c_Ground := He.cls_ok (c.fact 38 (f := .cls "Ground") rfl)
    n_Ground_line := He.noat_ok (c.fact 39 (f := .noat "Ground" "line") rfl)
    n_Ground_prime := He.noat_ok (c.fact 40 (f := .noat "Ground" "prime") rfl)
    k_Ground := He.mkr_ok (c.fact 41 (f := .mkr "Ground") rfl)
    m_Ground_eq := He.meth_ok (c.fact 42 (f := .meth "Ground" "__eq__") rfl)
    m_Ground_number := He.meth_ok (c.fact 43 (f := .meth "Ground" "number") rfl)
    m_Ground_add := He.meth_ok (c.fact 44 (f := .meth "Ground" "add") rfl)
    m_Ground_sub := He.meth_ok (c.fact 45 (f := .meth "Ground" "sub") rfl)
    m_Ground_mul := He.meth_ok (c.fact 46 (f := .meth "Ground" "mul") rfl)
    m_Ground_div := He.meth_ok (c.fact 47 (f := .meth "Ground" "div") rfl)
    m_Ground_less := He.meth_ok (c.fact 48 (f := .meth "Ground" "less") rfl)
    m_Ground_read_number := He.meth_ok (c.fact 49 (f := .meth "Ground" "read_number") rfl)
    m_Ground_show := He.meth_ok (c.fact 50 (f := .meth "Ground" "show") rfl)
    m_Ground_row := He.meth_ok (c.fact 51 (f := .meth "Ground" "row") rfl)
    m_Ground_show_row := He.meth_ok (c.fact 52 (f := .meth "Ground" "show_row") rfl)
    f_len := He.free_ok X G (c.fact 53 (f := .free "len") rfl)
    f_int := He.free_ok X G (c.fact 54 (f := .free "int") rfl)
    f_isinstance := He.free_ok X G (c.fact 55 (f := .free "isinstance") rfl)
    f_range := He.free_ok X G (c.fact 56 (f := .free "range") rfl)
    f_str := He.free_ok X G (c.fact 57 (f := .free "str") rfl)
    f_list := He.free_ok X G (c.fact 58 (f := .free "list") rfl)
    f_tuple := He.free_ok X G (c.fact 59 (f := .free "tuple") rfl)
    f_abs := He.free_ok X G (c.fact 60 (f := .free "abs") rfl)
    f_max := He.free_ok X G (c.fact 61 (f := .free "max") rfl)
    f_enumerate := He.free_ok X G (c.fact 62 (f := .free "enumerate") rfl)
    f_zip := He.free_ok X G (c.fact 63 (f := .free "zip") rfl)
    f_bool := He.free_ok X G (c.fact 64 (f := .free "bool") rfl)
    g_gcd := bltB_ok X G z0
    x_BadGround := oexIB_ok z1
    xn_BadGround_code := noB_ok z2
    xn_BadGround_why := noB_ok z3
    x_BadNumber := oexIB_ok z4
    xn_BadNumber_code := noB_ok z5
    xn_BadNumber_at := noB_ok z6
    xn_BadNumber_why := noB_ok z7
    ty_Ground := tyIB_ok z8
  }
/-! ### words of the readings (local) -/
local macro_rules | `(tactic| walk_at "z1") => `(tactic| first
  | refine ⟨_, rfl, ?_⟩
  | refine ⟨rfl, ?_⟩
  | refine ⟨_, _, rfl, rfl, ?_⟩
  | refine ⟨_, _, rfl, ?_⟩)
/-- leaves of a reading -/
local macro_rules | `(tactic| walk_at "z") => `(tactic| repeat (walk_at "z1"))
/-- Same from any heap ahead to this one -/
local macro_rules | `(tactic| walk_at "same") => `(tactic| first
  | with_reducible exact Same.refl _
  | with_reducible assumption
  | (refine Same.trans ?_ (Same.new (by assumption)); walk_at "same")
  | (refine Same.trans ?_ (by with_reducible assumption : Same _ _); walk_at "same"))
/-- what stands at an address, from what stood there ahead -/
local macro_rules | `(tactic| walk_at "at") => `(tactic| first
  | with_reducible assumption
  | exact upd_same
  | (refine Same.at (by with_reducible assumption) ?_; walk_at "same"))
local macro_rules | `(tactic| walk_at "sqt") => `(tactic| (refine SqT.of' ?_; walk_at "at"))
local macro_rules | `(tactic| walk_at "sql") => `(tactic| (refine SqL.of' ?_; walk_at "at"))
/-- a branch whose test is known by computing -/
local macro_rules | `(tactic| walk_at "ift") => `(tactic| refine ifT (by first | rfl | decide | assumption) ?_)
local macro_rules | `(tactic| walk_at "iff") => `(tactic| refine ifF (by first | rfl | decide | assumption) ?_)
local macro_rules | `(tactic| walk_at "ifn") => `(tactic| first | walk_at "ift" | walk_at "iff")
/-- an item of a tuple that stands in the context -/
local macro_rules | `(tactic| walk_at "ti") => `(tactic| (walk_at "z"; refine ⟨_, _, _, _, rfl, rfl, SqT.of' (by assumption), rfl, ?_⟩))
/-! ### numbers: what the law reckons with -/
inductive Nm where
  | r (n : Int)
  | q (t b : Int)
def pV : Option Int → V
  | none => .non
  | some p => .int p
def GdOk : Option Int → Prop
  | none => True
  | some p => ∃ n : Nat, p = (n : Int) ∧ Prime n ∧ 3 ≤ n ∧ n ≤ 10007
def NOk : Option Int → Nm → Prop
  | none, .q t b => Low t b
  | some p, .r a => 0 ≤ a ∧ a < p
  | _, _ => False
def Sz : Nm → Prop
  | .r _ => True
  | .q t b => t.natAbs < 2 ^ 310 ∧ b.natAbs < 2 ^ 310
def RN (H : Hp) (v : V) : Nm → Prop
  | .r n => v = .int n
  | .q t b => ∃ a, v = .ref a ∧ H a = some (.tup [.int t, .int b])
theorem RN.fix {M : List Addr} {H H' : Hp} {v : V} : ∀ {n : Nm}, RN H v n → Fix M H H' → RN H' v n
  | .r _, h, _ => h
  | .q _ _, ⟨a, e, h⟩, f => ⟨a, e, f.tup h⟩
theorem RN.ex {H H' : Hp} {v : V} {n : Nm} (h : RN H v n) (e : Same H H') : RN H' v n := h.fix (M := []) (Fix.of e)
def nfr (x : Int × Int) : Nm := .q x.1 x.2
def num : Option Int → Int → Nm
  | none, a => .q a 1
  | some p, a => .r (a % p)
def nadd : Option Int → Nm → Nm → Nm
  | none, .q a b, .q c d => nfr (frac (a * d + c * b) (b * d))
  | some p, .r a, .r b => .r ((a + b) % p)
  | _, _, _ => .r 0
def nmul : Option Int → Nm → Nm → Nm
  | none, .q a b, .q c d => nfr (frac (a * c) (b * d))
  | some p, .r a, .r b => .r (a * b % p)
  | _, _, _ => .r 0
def nneg : Option Int → Nm → Nm
  | none, .q a b => .q (-a) b
  | some p, .r a => .r (-a % p)
  | _, _ => .r 0
def pinv (p a : Int) : Int := (pwN p.toNat 16 1 (p.toNat - 2) a.toNat : Nat)
def ninv : Option Int → Nm → Nm
  | none, .q a b => nfr (frac b a)
  | some p, .r a => .r (pinv p a)
  | _, _ => .r 0
def nzero : Nm → Prop
  | .r a => a = 0
  | .q a _ => a = 0
def lineOf : Option Int → Str
  | none => "fractions"
  | some p => Str.ofString "rests " ++ Str.ofString (toString p)
section
variable {P : Program} {w : World} {K : PySem.W.Frag} {mg : Str → Option Value} {base : Heap}
/-! ### gcd -/
def spGcd : Sp := fun vs H Q _ => ∃ (a b : Int), vs = [.int a, .int b] ∧ 0 < b ∧ b * b < 2 ^ 5998 ∧ ∀ H', Same H H' → Q (.int (Int.gcd a b)) H'
theorem sc__law_gcd : FnScope ["a", "b", "k"] ["a", "b"] (defScope s__law_gcd) := ⟨rfl, rfl, rfl, by decide +kernel, rfl, by decide +kernel, by decide +kernel⟩
theorem ok__law_gcd (T : Tx K mg) : Fk P w K mg base CX0 1 (He.fAd K d__law_gcd.at_) ["a", "b"] [] spGcd := by
  obtain ⟨fd, F⟩ := T.D__law_gcd
  refine ⟨fd, [], FunD.ok F sc__law_gcd (fun vs H Q E h => ?_) (fun cdv A outer s H vs Q E hr h => ?_), F.bindsN (fun _ _ _ _ _ _ us hl => match us, hl with | [_, _], _ => rfl), .nil, F.kp⟩
  · obtain ⟨a, b, rfl, _⟩ := h
    rfl
  · obtain ⟨a, b, rfl, hb, hz, k⟩ := h
    refine ⟨_, PSs.nox (pss_cons (ps_for PassesOwn.never rfl (pi_range1 (by rfl) T.f_range (pa_cons pe_int pa_nil)) (pg_name (i := 2) sc__law_gcd.nd rfl (Or.inl rfl)) (pss_cons (ps_if (pt_cmpR op_eq (pv 1) pe_int (nomark _)) (pss_one (ps_ret (pe_callB call_abs (by rfl) T.f_abs (by decide +kernel) (pa_cons (pv 0) pa_nil)))) pss_nil)
      (pss_one (ps_par (i := 0) (j := 1) (by rfl) sc__law_gcd.nd rfl rfl (by decide) rfl rfl (pa_cons (pv 1) (pa_cons (pe_op op_mod (pe_callTy call_int1 (by rfl) T.f_int (by decide +kernel) (pa_cons (pv 0) pa_nil)) (pv 1)) pa_nil)) (by rfl)))))
      (pss_one (ps_ret pe_int))), ?_⟩
    walk_at "z"
    refine ⟨by decide, by decide, for_range (n := 6000) (fun i σ H1 => ∃ (x y : Int) (v : Option V), σ = [some (.int x), some (.int y), v] ∧ Same H H1 ∧ GI a b i x y) ⟨a, b, none, rfl, Same.refl _, gi_zero (by omega)⟩ ?_ ?_⟩
    · rintro i σ H1 hi ⟨x, y, v, rfl, s1, g⟩
      walk_at "z"
      refine ifb (fun e => ?_) (fun e => ?_)
      · have e1 : y = 0 := by simpa using e
        subst e1
        walk_at "z"
        have hg : (if x < 0 then -x else x) = (Int.gcd a b : Int) := by
          rw [← g.g, Int.gcd_zero_right]
          split <;> omega
        show Q (.int (if x < 0 then -x else x)) H1
        rw [hg]
        exact k _ s1
      · have e1 : y ≠ 0 := by simpa using e
        walk_at "z"
        refine .inl ⟨_, rfl, ?_⟩
        refine ⟨_, rfl, _, _, rfl, rfl, ?_, ?_⟩
        · show 0 < y
          have := g.nn
          omega
        · exact ⟨_, _, rfl, _, _, _, rfl, s1, gi_step g e1⟩
    · rintro σ H1 ⟨x, y, v, rfl, s1, g⟩
      exact (gi_end (n := 5998) g hz).elim
/-! ### _law_fraction -/
def spFrac : Sp := fun vs H Q _ => ∃ (a b : Int), vs = [.int a, .int b] ∧ b ≠ 0 ∧ b.natAbs < 2 ^ 2900 ∧ ∀ v H', Same H H' → RN H' v (nfr (frac a b)) → Q v H'
theorem sq_lt {b : Int} (h : b.natAbs < 2 ^ 2900) : b * b < 2 ^ 5998 := by
  have e : b * b = ((b.natAbs * b.natAbs : Nat) : Int) := by rw [Int.natAbs_mul_self]
  have h2 : b.natAbs * b.natAbs < 2 ^ 2900 * 2 ^ 2900 := Nat.mul_lt_mul'' h h
  have h3 : (2 : Nat) ^ 2900 * 2 ^ 2900 ≤ 2 ^ 5998 := by rw [← Nat.pow_add]; exact Nat.pow_le_pow_right (by decide) (by decide)
  rw [e]
  have h4 : b.natAbs * b.natAbs < 2 ^ 5998 := Nat.lt_of_lt_of_le h2 h3
  exact_mod_cast h4
theorem gcd_div {a b : Int} (hb : b ≠ 0) (h : b.natAbs < 2 ^ 2900) : CDivW 0 (Int.gcd a b : Int) := by
  have hg := gcd_pos (a := a) hb
  have hle : Int.gcd a b ≤ b.natAbs := Int.gcd_le_natAbs_right a hb
  refine ⟨hg, ?_⟩
  rw [Int.natAbs_natCast]
  have := PySem.Flt.log2_lt_of (n := Int.gcd a b) (k := 2900) (by decide) (Nat.lt_of_le_of_lt hle h)
  omega
theorem sc__law_fraction : FnScope ["a", "b", "d"] ["a", "b"] (defScope s__law_fraction) := ⟨rfl, rfl, rfl, by decide +kernel, rfl, by decide +kernel, by decide +kernel⟩
theorem ok__law_fraction (T : Tx K mg) : Fk P w K mg base CX0 2 (He.fAd K d__law_fraction.at_) ["a", "b"] [] spFrac := by
  obtain ⟨fd, F⟩ := T.D__law_fraction
  refine ⟨fd, [], FunD.ok F sc__law_fraction (fun vs H Q E h => ?_) (fun cdv A outer s H vs Q E hr h => ?_), F.bindsN (fun _ _ _ _ _ _ us hl => match us, hl with | [_, _], _ => rfl), .nil, F.kp⟩
  · obtain ⟨a, b, rfl, _⟩ := h
    rfl
  · obtain ⟨a, b, rfl, hb, hz, k⟩ := h
    refine ⟨_, PSs.nox (pss_cons (ps_if (pt_cmpR op_lt (pv 1) pe_int (nomark _)) (pss_one (ps_par (i := 0) (j := 1) (by rfl) sc__law_fraction.nd rfl rfl (by decide) rfl rfl (pa_cons (pe_un un_neg (pv 0)) (pa_cons (pe_un un_neg (pv 1)) pa_nil)) (by rfl))) pss_nil)
      (pss_cons (ps_set (i := 2) sc__law_fraction.nd rfl (Or.inl rfl) (qcall ((ok__law_gcd T).mono (by decide)) hr T.g__law_gcd pass0 (pa_cons (pv 0) (pa_cons (pv 1) pa_nil))))
      (pss_one (ps_ret (pe_tup (pa_cons (pe_op op_fdivW (pv 0) (pv 2)) (pa_cons (pe_op op_fdivW (pv 1) (pv 2)) pa_nil))))))), ?_⟩
    walk_at "z"
    refine ifb (fun e => ?_) (fun e => ?_)
    · have e1 : b < 0 := of_decide_eq_true e
      have hz' : (-b).natAbs < 2 ^ 2900 := by rw [Int.natAbs_neg]; exact hz
      walk_at "z"
      refine ⟨by omega, sq_lt hz', fun H1 s1 => ?_⟩
      have hg : Int.gcd (-a) (-b) = Int.gcd a b := by rw [Int.neg_gcd, Int.gcd_neg]
      walk_at "z"
      refine ⟨by rw [hg]; exact gcd_div hb hz, ?_⟩
      walk_at "z"
      refine ⟨by rw [hg]; exact gcd_div hb hz, ?_⟩
      refine ⟨by show 2 ≤ sizeLine; decide, fun p hp => k _ _ (s1.trans (Same.new hp)) ⟨p, rfl, ?_⟩⟩
      rw [upd_same, hg]
      unfold frac
      rw [if_pos e1]
    · have e1 : ¬ b < 0 := of_decide_eq_false e
      walk_at "z"
      refine ⟨by omega, sq_lt hz, fun H1 s1 => ?_⟩
      walk_at "z"
      refine ⟨gcd_div hb hz, ?_⟩
      walk_at "z"
      refine ⟨gcd_div hb hz, ?_⟩
      refine ⟨by show 2 ≤ sizeLine; decide, fun p hp => k _ _ (s1.trans (Same.new hp)) ⟨p, rfl, ?_⟩⟩
      rw [upd_same]
      unfold frac
      rw [if_neg e1]
/-! ### _law_num, _law_neg, _law_add, _law_mul -/
def spNum : Sp := fun vs H Q _ => ∃ (p : Option Int) (a : Int), vs = [pV p, .int a] ∧ GdOk p ∧ ∀ v H', Same H H' → RN H' v (num p a) → Q v H'
theorem gd_pos {p : Int} (h : GdOk (some p)) : 3 ≤ p ∧ p ≤ 10007 := by
  obtain ⟨n, rfl, _, h1, h2⟩ := h
  omega
theorem sc__law_num : FnScope ["p", "a"] ["p", "a"] (defScope s__law_num) := ⟨rfl, rfl, rfl, by decide +kernel, rfl, by decide +kernel, by decide +kernel⟩
theorem ok__law_num (T : Tx K mg) : Fk P w K mg base CX0 1 (He.fAd K d__law_num.at_) ["p", "a"] [] spNum := by
  obtain ⟨fd, F⟩ := T.D__law_num
  refine ⟨fd, [], FunD.ok F sc__law_num (fun vs H Q E h => ?_) (fun cdv A outer s H vs Q E hr h => ?_), F.bindsN (fun _ _ _ _ _ _ us hl => match us, hl with | [_, _], _ => rfl), .nil, F.kp⟩
  · obtain ⟨p, a, rfl, _⟩ := h
    rfl
  · obtain ⟨p, a, rfl, hp, k⟩ := h
    refine ⟨_, PSs.nox (pss_cons (ps_if (pt_cmpR op_isN (pv 0) pe_non (nomark _)) (pss_one (ps_ret (pe_tup (pa_cons (pv 1) (pa_cons pe_int pa_nil))))) pss_nil)
      (pss_one (ps_ret (pe_op op_mod (pe_callTy call_int1 (by rfl) T.f_int (by decide +kernel) (pa_cons (pv 1) pa_nil)) (pv 0))))), ?_⟩
    cases p with
    | none =>
      walk_at "z"
      exact ⟨by show 2 ≤ sizeLine; decide, fun q hq => k _ _ (Same.new hq) ⟨_, rfl, upd_same⟩⟩
    | some p =>
      have := gd_pos hp
      walk_at "z"
      refine .inl ⟨_, rfl, _, rfl, _, _, rfl, rfl, by show 0 < p; omega, k _ _ (Same.refl _) rfl⟩
def spNeg : Sp := fun vs H Q _ => ∃ (p : Option Int) (v : V) (n : Nm), vs = [pV p, v] ∧ GdOk p ∧ NOk p n ∧ RN H v n ∧ ∀ v H', Same H H' → RN H' v (nneg p n) → Q v H'
theorem sc__law_neg : FnScope ["p", "a"] ["p", "a"] (defScope s__law_neg) := ⟨rfl, rfl, rfl, by decide +kernel, rfl, by decide +kernel, by decide +kernel⟩
theorem ok__law_neg (T : Tx K mg) : Fk P w K mg base CX0 1 (He.fAd K d__law_neg.at_) ["p", "a"] [] spNeg := by
  obtain ⟨fd, F⟩ := T.D__law_neg
  refine ⟨fd, [], FunD.ok F sc__law_neg (fun vs H Q E h => ?_) (fun cdv A outer s H vs Q E hr h => ?_), F.bindsN (fun _ _ _ _ _ _ us hl => match us, hl with | [_, _], _ => rfl), .nil, F.kp⟩
  · obtain ⟨p, v, n, rfl, _⟩ := h
    rfl
  · obtain ⟨p, v, n, rfl, hp, hn, hv, k⟩ := h
    refine ⟨_, PSs.nox (pss_cons (ps_if (pt_cmpR op_isN (pv 0) pe_non (nomark _)) (pss_one (ps_ret (pe_tup (pa_cons (pe_un un_neg (pe_ix ix_tup (pv 1) pe_int (fun _ _ => rfl))) (pa_cons (pe_ix ix_tup (pv 1) pe_int (fun _ _ => rfl)) pa_nil))))) pss_nil)
      (pss_one (ps_ret (pe_op op_mod (pe_callTy call_int1 (by rfl) T.f_int (by decide +kernel) (pa_cons (pe_un un_neg (pv 1)) pa_nil)) (pv 0))))), ?_⟩
    match p, n, hn with
    | none, .q t b, hn =>
      obtain ⟨a, rfl, ha⟩ := hv
      walk_at "z"
      refine ⟨_, _, _, _, rfl, rfl, SqT.of' ha, rfl, ?_⟩
      walk_at "z"
      refine ⟨_, _, _, _, rfl, rfl, SqT.of' ha, rfl, ?_⟩
      exact ⟨by show 2 ≤ sizeLine; decide, fun q hq => k _ _ (Same.new hq) ⟨_, rfl, upd_same⟩⟩
    | some p, .r a, hn =>
      have := gd_pos hp
      obtain rfl : v = .int a := hv
      walk_at "z"
      refine .inl ⟨_, rfl, _, rfl, _, _, rfl, rfl, by show 0 < p; omega, k _ _ (Same.refl _) rfl⟩
theorem mul_sz {a b : Int} (h1 : a.natAbs < 2 ^ 310) (h2 : b.natAbs < 2 ^ 310) : (a * b).natAbs < 2 ^ 620 := wide_lt h1 h2
theorem mul_w {a b : Int} (h1 : a.natAbs < 2 ^ 310) (h2 : b.natAbs < 2 ^ 310) : CMulW a b := wide_mul h1 h2 (by decide) (by decide) (by decide)
theorem lt_2900 {n : Nat} (h : n < 2 ^ 620) : n < 2 ^ 2900 := Nat.lt_of_lt_of_le h (Nat.pow_le_pow_right (by decide) (by decide))
def spAdd : Sp := fun vs H Q _ => ∃ (p : Option Int) (v u : V) (n m : Nm), vs = [pV p, v, u] ∧ GdOk p ∧ NOk p n ∧ NOk p m ∧ Sz n ∧ Sz m ∧ RN H v n ∧ RN H u m ∧ ∀ v H', Same H H' → RN H' v (nadd p n m) → Q v H'
theorem sc__law_add : FnScope ["p", "a", "b"] ["p", "a", "b"] (defScope s__law_add) := ⟨rfl, rfl, rfl, by decide +kernel, rfl, by decide +kernel, by decide +kernel⟩
theorem ok__law_add (T : Tx K mg) : Fk P w K mg base CX0 3 (He.fAd K d__law_add.at_) ["p", "a", "b"] [] spAdd := by
  obtain ⟨fd, F⟩ := T.D__law_add
  refine ⟨fd, [], FunD.ok F sc__law_add (fun vs H Q E h => ?_) (fun cdv A outer s H vs Q E hr h => ?_), F.bindsN (fun _ _ _ _ _ _ us hl => match us, hl with | [_, _, _], _ => rfl), .nil, F.kp⟩
  · obtain ⟨p, v, u, n, m, rfl, _⟩ := h
    rfl
  · obtain ⟨p, v, u, n, m, rfl, hp, hn, hm, zn, zm, hv, hu, k⟩ := h
    refine ⟨_, PSs.nox (pss_cons (ps_if (pt_cmpR op_isN (pv 0) pe_non (nomark _)) (pss_one (ps_ret (qcall ((ok__law_fraction T).mono (by decide)) hr T.g__law_fraction pass0 (pa_cons (pe_op op_add (pe_op op_mulW (pe_ix ix_tup (pv 1) pe_int (fun _ _ => rfl)) (pe_ix ix_tup (pv 2) pe_int (fun _ _ => rfl))) (pe_op op_mulW (pe_ix ix_tup (pv 2) pe_int (fun _ _ => rfl)) (pe_ix ix_tup (pv 1) pe_int (fun _ _ => rfl)))) (pa_cons (pe_op op_mulW (pe_ix ix_tup (pv 1) pe_int (fun _ _ => rfl)) (pe_ix ix_tup (pv 2) pe_int (fun _ _ => rfl))) pa_nil))))) pss_nil)
      (pss_one (ps_ret (pe_op op_mod (pe_callTy call_int1 (by rfl) T.f_int (by decide +kernel) (pa_cons (pe_op op_add (pv 1) (pv 2)) pa_nil)) (pv 0))))), ?_⟩
    match p, n, m, hn, hm with
    | none, .q t b, .q c d, hn, hm =>
      obtain ⟨a, rfl, ha⟩ := hv
      obtain ⟨e, rfl, he⟩ := hu
      walk_at "z"
      refine ⟨_, _, _, _, rfl, rfl, SqT.of' ha, rfl, ?_⟩
      walk_at "z"
      refine ⟨_, _, _, _, rfl, rfl, SqT.of' he, rfl, ?_⟩
      refine ⟨_, _, rfl, rfl, mul_w zn.1 zm.2, ?_⟩
      walk_at "z"
      refine ⟨_, _, _, _, rfl, rfl, SqT.of' he, rfl, ?_⟩
      walk_at "z"
      refine ⟨_, _, _, _, rfl, rfl, SqT.of' ha, rfl, ?_⟩
      refine ⟨_, _, rfl, rfl, mul_w zm.1 zn.2, ?_⟩
      walk_at "z"
      refine ⟨_, _, _, _, rfl, rfl, SqT.of' ha, rfl, ?_⟩
      walk_at "z"
      refine ⟨_, _, _, _, rfl, rfl, SqT.of' he, rfl, ?_⟩
      refine ⟨_, _, rfl, rfl, mul_w zn.2 zm.2, ?_⟩
      refine ⟨_, _, rfl, Int.mul_ne_zero (by have := hn.1; omega) (by have := hm.1; omega), lt_2900 (mul_sz zn.2 zm.2), k⟩
    | some p, .r a, .r b, hn, hm =>
      have := gd_pos hp
      obtain rfl : v = .int a := hv
      obtain rfl : u = .int b := hu
      walk_at "z"
      refine .inl ⟨_, rfl, _, rfl, _, _, rfl, rfl, by show 0 < p; omega, k _ _ (Same.refl _) rfl⟩
def spMul : Sp := fun vs H Q _ => ∃ (p : Option Int) (v u : V) (n m : Nm), vs = [pV p, v, u] ∧ GdOk p ∧ NOk p n ∧ NOk p m ∧ Sz n ∧ Sz m ∧ RN H v n ∧ RN H u m ∧ ∀ v H', Same H H' → RN H' v (nmul p n m) → Q v H'
theorem rest_w {p a b : Int} (h : 3 ≤ p ∧ p ≤ 10007) (ha : 0 ≤ a ∧ a < p) (hb : 0 ≤ b ∧ b < p) : CMulW a b :=
  wide_mul (a := 14) (b := 14) (by have : (2 : Nat) ^ 14 = 16384 := by decide
                                   omega) (by have : (2 : Nat) ^ 14 = 16384 := by decide
                                              omega) (by decide) (by decide) (by decide)
theorem sc__law_mul : FnScope ["p", "a", "b"] ["p", "a", "b"] (defScope s__law_mul) := ⟨rfl, rfl, rfl, by decide +kernel, rfl, by decide +kernel, by decide +kernel⟩
theorem ok__law_mul (T : Tx K mg) : Fk P w K mg base CX0 3 (He.fAd K d__law_mul.at_) ["p", "a", "b"] [] spMul := by
  obtain ⟨fd, F⟩ := T.D__law_mul
  refine ⟨fd, [], FunD.ok F sc__law_mul (fun vs H Q E h => ?_) (fun cdv A outer s H vs Q E hr h => ?_), F.bindsN (fun _ _ _ _ _ _ us hl => match us, hl with | [_, _, _], _ => rfl), .nil, F.kp⟩
  · obtain ⟨p, v, u, n, m, rfl, _⟩ := h
    rfl
  · obtain ⟨p, v, u, n, m, rfl, hp, hn, hm, zn, zm, hv, hu, k⟩ := h
    refine ⟨_, PSs.nox (pss_cons (ps_if (pt_cmpR op_isN (pv 0) pe_non (nomark _)) (pss_one (ps_ret (qcall ((ok__law_fraction T).mono (by decide)) hr T.g__law_fraction pass0 (pa_cons (pe_op op_mulW (pe_ix ix_tup (pv 1) pe_int (fun _ _ => rfl)) (pe_ix ix_tup (pv 2) pe_int (fun _ _ => rfl))) (pa_cons (pe_op op_mulW (pe_ix ix_tup (pv 1) pe_int (fun _ _ => rfl)) (pe_ix ix_tup (pv 2) pe_int (fun _ _ => rfl))) pa_nil))))) pss_nil)
      (pss_one (ps_ret (pe_op op_mod (pe_callTy call_int1 (by rfl) T.f_int (by decide +kernel) (pa_cons (pe_op op_mulW (pv 1) (pv 2)) pa_nil)) (pv 0))))), ?_⟩
    match p, n, m, hn, hm with
    | none, .q t b, .q c d, hn, hm =>
      obtain ⟨a, rfl, ha⟩ := hv
      obtain ⟨e, rfl, he⟩ := hu
      walk_at "z"
      refine ⟨_, _, _, _, rfl, rfl, SqT.of' ha, rfl, ?_⟩
      walk_at "z"
      refine ⟨_, _, _, _, rfl, rfl, SqT.of' he, rfl, ?_⟩
      refine ⟨_, _, rfl, rfl, mul_w zn.1 zm.1, ?_⟩
      walk_at "z"
      refine ⟨_, _, _, _, rfl, rfl, SqT.of' ha, rfl, ?_⟩
      walk_at "z"
      refine ⟨_, _, _, _, rfl, rfl, SqT.of' he, rfl, ?_⟩
      refine ⟨_, _, rfl, rfl, mul_w zn.2 zm.2, ?_⟩
      refine ⟨_, _, rfl, Int.mul_ne_zero (by have := hn.1; omega) (by have := hm.1; omega), lt_2900 (mul_sz zn.2 zm.2), k⟩
    | some p, .r a, .r b, hn, hm =>
      have h3 := gd_pos hp
      obtain rfl : v = .int a := hv
      obtain rfl : u = .int b := hu
      walk_at "z"
      refine ⟨rest_w h3 hn hm, ?_⟩
      refine .inl ⟨_, rfl, _, rfl, _, _, rfl, rfl, by show 0 < p; omega, k _ _ (Same.refl _) rfl⟩
end

section
variable {P : Program} {w : World} {K : PySem.W.Frag} {mg : Str → Option Value} {base : Heap}
/-! ### _law_inv -/
def spInv : Sp := fun vs H Q _ => ∃ (p : Option Int) (v : V) (n : Nm), vs = [pV p, v] ∧ GdOk p ∧ NOk p n ∧ Sz n ∧ ¬ nzero n ∧ RN H v n ∧ ∀ v H', Same H H' → RN H' v (ninv p n) → Q v H'
theorem nat_w {n p m : Nat} (h : n < p) (hp : p ≤ 10007) : CMul (n : Int) (m : Int) := .inl ⟨by omega, by omega⟩
theorem sc__law_inv : FnScope ["p", "a", "told", "e", "k"] ["p", "a"] (defScope s__law_inv) := ⟨rfl, rfl, rfl, by decide +kernel, rfl, by decide +kernel, by decide +kernel⟩
theorem ok__law_inv (T : Tx K mg) : Fk P w K mg base CX0 3 (He.fAd K d__law_inv.at_) ["p", "a"] [] spInv := by
  obtain ⟨fd, F⟩ := T.D__law_inv
  refine ⟨fd, [], FunD.ok F sc__law_inv (fun vs H Q E h => ?_) (fun cdv A outer s H vs Q E hr h => ?_), F.bindsN (fun _ _ _ _ _ _ us hl => match us, hl with | [_, _], _ => rfl), .nil, F.kp⟩
  · obtain ⟨p, v, n, rfl, _⟩ := h
    rfl
  · obtain ⟨p, v, n, rfl, hp, hn, zn, nz, hv, k⟩ := h
    refine ⟨_, PSs.nox (pss_cons (ps_if (pt_cmpR op_isN (pv 0) pe_non (nomark _)) (pss_one (ps_ret (qcall ((ok__law_fraction T).mono (by decide)) hr T.g__law_fraction pass0 (pa_cons (pe_ix ix_tup (pv 1) pe_int (fun _ _ => rfl)) (pa_cons (pe_ix ix_tup (pv 1) pe_int (fun _ _ => rfl)) pa_nil))))) pss_nil)
      (pss_cons (ps_set (i := 2) sc__law_inv.nd rfl (Or.inl rfl) pe_int)
      (pss_cons (ps_set (i := 3) sc__law_inv.nd rfl (Or.inl rfl) (pe_op op_sub (pv 0) pe_int))
      (pss_cons (ps_for PassesOwn.never rfl (pi_range1 (by rfl) T.f_range (pa_cons pe_int pa_nil)) (pg_name (i := 4) sc__law_inv.nd rfl (Or.inl rfl)) (pss_cons (ps_if (pt_cmpR op_eq (pe_op op_mod (pe_callTy call_int1 (by rfl) T.f_int (by decide +kernel) (pa_cons (pv 3) pa_nil)) pe_int) pe_int (nomark _)) (pss_one (ps_set (i := 2) sc__law_inv.nd rfl (Or.inl rfl) (pe_op op_mod (pe_callTy call_int1 (by rfl) T.f_int (by decide +kernel) (pa_cons (pe_op op_mul (pv 2) (pv 1)) pa_nil)) (pv 0)))) pss_nil)
      (pss_cons (ps_set (i := 1) sc__law_inv.nd rfl (Or.inl rfl) (pe_op op_mod (pe_callTy call_int1 (by rfl) T.f_int (by decide +kernel) (pa_cons (pe_op op_mul (pv 1) (pv 1)) pa_nil)) (pv 0)))
      (pss_one (ps_set (i := 3) sc__law_inv.nd rfl (Or.inl rfl) (pe_op op_fdivW (pv 3) pe_int))))))
      (pss_one (ps_ret (pv 2))))))), ?_⟩
    match p, n, hn with
    | none, .q t b, hn =>
      obtain ⟨a, rfl, ha⟩ := hv
      walk_at "z"
      refine ⟨_, _, _, _, rfl, rfl, SqT.of' ha, rfl, ?_⟩
      walk_at "z"
      refine ⟨_, _, _, _, rfl, rfl, SqT.of' ha, rfl, ?_⟩
      refine ⟨_, _, rfl, nz, Nat.lt_of_lt_of_le zn.1 (Nat.pow_le_pow_right (by decide) (by decide)), k⟩
    | some p, .r a, hn =>
      obtain ⟨m, rfl, pm, h3, h4⟩ := hp
      obtain rfl : v = .int a := hv
      obtain ⟨a, rfl⟩ : ∃ c : Nat, a = c := ⟨a.toNat, by have := hn.1; omega⟩
      have ham : a < m := by have := hn.2; omega
      walk_at "z"
      have e2 : (m : Int) - 2 = ((m - 2 : Nat) : Int) := by omega
      refine ⟨by decide, by decide, for_range (n := 16) (fun i σ H1 => ∃ (x t e : Nat) (v : Option V), σ = [some (.int m), some (.int x), some (.int t), some (.int e), v] ∧ Same H H1 ∧ x < m ∧ t < m ∧ i ≤ 16 ∧ pwN m (16 - i) t e x = pwN m 16 1 (m - 2) a)
        ⟨a, 1, m - 2, none, by show [some (V.int m), some (V.int a), some (V.int 1), some (V.int ((m : Int) - 2)), none] = _; rw [e2]; rfl, Same.refl _, ham, by omega, by omega, rfl⟩ ?_ ?_⟩
      · rintro i σ H1 hi ⟨x, t, e, v, rfl, s1, hx, ht, _, hpw⟩
        obtain ⟨j, hj⟩ : ∃ j, 16 - i = j + 1 := ⟨15 - i, by omega⟩
        have hj' : 16 - (i + 1) = j := by omega
        rw [hj] at hpw
        have em : ((e : Int) % 2) = ((e % 2 : Nat) : Int) := by omega
        walk_at "z"
        refine .inl ⟨_, rfl, ?_⟩
        walk_at "z"
        refine ⟨by show (0 : Int) < 2; decide, ?_⟩
        walk_at "z"
        refine ifb (fun c => ?_) (fun c => ?_)
        · have c1 : e % 2 = 1 := by
            have z := of_decide_eq_true c
            injection z with z
            omega
          walk_at "z"
          refine ⟨nat_w ht h4, ?_⟩
          refine .inl ⟨_, rfl, ?_⟩
          walk_at "z"
          refine ⟨by show (0 : Int) < m; omega, ?_⟩
          walk_at "z"
          refine ⟨nat_w hx h4, ?_⟩
          refine .inl ⟨_, rfl, ?_⟩
          walk_at "z"
          refine ⟨by show (0 : Int) < m; omega, ?_⟩
          walk_at "z"
          refine ⟨⟨by decide, by decide⟩, ?_⟩
          refine ⟨x * x % m, t * x % m, e / 2, some (.int (0 + (i : Int))), ?_, s1, Nat.mod_lt _ (by omega), Nat.mod_lt _ (by omega), by omega, ?_⟩
          · show [some (V.int m), some (V.int ((x : Int) * x % m)), some (V.int ((t : Int) * x % m)), some (V.int ((e : Int) / 2)), some (.int (0 + (i : Int)))] = _
            norm_cast
          · rw [hj', ← hpw]
            show _ = pwN m j (if e % 2 = 1 then t * x % m else t) (e / 2) (x * x % m)
            rw [if_pos c1]
        · have c1 : ¬ e % 2 = 1 := by
            have z := of_decide_eq_false c
            intro h
            exact z (by show V.int ((e : Int) % 2) = V.int 1; rw [em, h]; rfl)
          walk_at "z"
          refine ⟨nat_w hx h4, ?_⟩
          refine .inl ⟨_, rfl, ?_⟩
          walk_at "z"
          refine ⟨by show (0 : Int) < m; omega, ?_⟩
          walk_at "z"
          refine ⟨⟨by decide, by decide⟩, ?_⟩
          refine ⟨x * x % m, t, e / 2, some (.int (0 + (i : Int))), ?_, s1, Nat.mod_lt _ (by omega), ht, by omega, ?_⟩
          · show [some (V.int m), some (V.int ((x : Int) * x % m)), some (V.int t), some (V.int ((e : Int) / 2)), some (.int (0 + (i : Int)))] = _
            norm_cast
          · rw [hj', ← hpw]
            show _ = pwN m j (if e % 2 = 1 then t * x % m else t) (e / 2) (x * x % m)
            rw [if_neg c1]
      · rintro σ H1 ⟨x, t, e, v, rfl, s1, hx, ht, _, hpw⟩
        walk_at "z"
        refine k _ _ s1 ?_
        show V.int t = V.int (pinv m a)
        unfold pinv
        rw [Int.toNat_natCast, Int.toNat_natCast, ← hpw]
        rfl
end

/-! ### texts of numbers -/
def sInt (n : Int) : Str := Str.ofString (toString n)
theorem tl_of_append (a b : String) : tl (Str.ofString (a ++ b)) = tl (Str.ofString a) ++ tl (Str.ofString b) := by
  show (Str.ofString (a ++ b)).cps.toList = (Str.ofString a).cps.toList ++ (Str.ofString b).cps.toList
  rw [PyProof.Rows.signs_ofString, PyProof.Rows.signs_ofString, PyProof.Rows.signs_ofString, String.toList_append, List.map_append]
theorem tl_sInt_nn {n : Int} (h : 0 ≤ n) : tl (sInt n) = numL n.natAbs := by
  obtain ⟨m, rfl⟩ := Int.eq_ofNat_of_zero_le h
  exact tl_num m
theorem tl_sInt_neg {n : Int} (h : n < 0) : tl (sInt n) = 45 :: numL n.natAbs := by
  unfold sInt
  rw [PyProof.Rows.toString_neg h]
  obtain ⟨m, hm⟩ : ∃ m : Nat, 0 - n = m := ⟨(0 - n).toNat, by omega⟩
  have hm2 : n.natAbs = m := by omega
  rw [hm, hm2, tl_of_append, tl_num]
  rfl
theorem tl_sInt (n : Int) : tl (sInt n) = if n < 0 then 45 :: numL n.natAbs else numL n.natAbs := by
  by_cases h : n < 0
  · rw [if_pos h, tl_sInt_neg h]
  · rw [if_neg h, tl_sInt_nn (by omega)]
theorem empty_app (x : Str) : Str.empty ++ x = x := by
  refine ext_tl ?_
  rw [tl_append]
  rfl
theorem num_len {n : Nat} (h : n < 2 ^ 310) : (numL n).length ≤ 94 := numL_len (by decide) (Nat.lt_of_lt_of_le h (by decide))
theorem sInt_len {n : Int} (h : n.natAbs < 2 ^ 310) : (sInt n).length ≤ 95 := by
  have := num_len h
  rw [len_tl, tl_sInt]
  split
  · show (numL n.natAbs).length + 1 ≤ 95
    omega
  · omega
theorem log_lt {n : Int} (h : n.natAbs < 2 ^ 310) : n.natAbs.log2 < 1920 := by
  have := PySem.Flt.log2_lt_of (k := 310) (by decide) h
  omega
def shown : Nm → Str
  | .q t b => if b = 1 then sInt t else sInt t ++ "/" ++ sInt b
  | .r a => sInt a
def dl (n : Nat) : Nat := (numL n).length
def dg : Nm → Nat
  | .q t b => max (dl t.natAbs) (dl b.natAbs)
  | .r _ => 1
section
variable {P : Program} {w : World} {K : PySem.W.Frag} {mg : Str → Option Value} {base : Heap}
def spLine : Sp := fun vs H Q _ => ∃ (p : Option Int), vs = [pV p] ∧ GdOk p ∧ Q (.str (lineOf p)) H
theorem small_sz {a : Int} (h0 : 0 ≤ a) (h : a ≤ 10007) : a.natAbs < 2 ^ 310 := Nat.lt_of_le_of_lt (show a.natAbs ≤ 10007 by omega) (by decide)
theorem sc__law_line : FnScope ["p"] ["p"] (defScope s__law_line) := ⟨rfl, rfl, rfl, by decide +kernel, rfl, by decide +kernel, by decide +kernel⟩
theorem ok__law_line (T : Tx K mg) : Fk P w K mg base CX0 1 (He.fAd K d__law_line.at_) ["p"] [] spLine := by
  obtain ⟨fd, F⟩ := T.D__law_line
  refine ⟨fd, [], FunD.ok F sc__law_line (fun vs H Q E h => ?_) (fun cdv A outer s H vs Q E hr h => ?_), F.bindsN (fun _ _ _ _ _ _ us hl => match us, hl with | [_], _ => rfl), .nil, F.kp⟩
  · obtain ⟨p, rfl, _⟩ := h
    rfl
  · obtain ⟨p, rfl, hp, k⟩ := h
    refine ⟨_, PSs.nox (pss_cons (ps_if (pt_cmpR op_isN (pv 0) pe_non (nomark _)) (pss_one (ps_ret pe_str)) pss_nil)
      (pss_one (ps_ret (pe_joined (PJ.cons pe_str (PJ.cons (pe_fmt (pv 0)) PJ.nil)))))), ?_⟩
    cases p with
    | none =>
      walk_at "z"
      exact k
    | some p =>
      have h3 := gd_pos hp
      have hz := small_sz (a := p) (by omega) h3.2
      have hl := sInt_len hz
      walk_at "z"
      refine ⟨by rw [empty_app]; decide, ?_⟩
      walk_at "z"
      refine .inr ⟨p, rfl, log_lt hz, ?_⟩
      refine ⟨sInt p, rfl, ?_, ?_⟩
      · rw [empty_app, len_tl, tl_append, List.length_append, ← len_tl, ← len_tl]
        show 6 + (sInt p).length ≤ sizeLine
        rw [sizeLine_eq]
        omega
      · show Q (.str (Str.empty ++ Str.ofString "rests " ++ sInt p)) H
        rw [empty_app]
        exact k
def spShown : Sp := fun vs H Q _ => ∃ (p : Option Int) (v : V) (n : Nm), vs = [pV p, v] ∧ GdOk p ∧ NOk p n ∧ Sz n ∧ RN H v n ∧ Q (.str (shown n)) H
theorem slash_len {t b : Int} (ht : t.natAbs < 2 ^ 310) (hb : b.natAbs < 2 ^ 310) : (sInt t ++ "/" ++ sInt b).length ≤ 191 := by
  have h1 := sInt_len ht
  have h2 := sInt_len hb
  rw [len_tl, tl_append, tl_append, List.length_append, List.length_append, ← len_tl, ← len_tl]
  show (sInt t).length + 1 + (sInt b).length ≤ 191
  omega
theorem sc__law_shown : FnScope ["p", "x"] ["p", "x"] (defScope s__law_shown) := ⟨rfl, rfl, rfl, by decide +kernel, rfl, by decide +kernel, by decide +kernel⟩
theorem ok__law_shown (T : Tx K mg) : Fk P w K mg base CX0 1 (He.fAd K d__law_shown.at_) ["p", "x"] [] spShown := by
  obtain ⟨fd, F⟩ := T.D__law_shown
  refine ⟨fd, [], FunD.ok F sc__law_shown (fun vs H Q E h => ?_) (fun cdv A outer s H vs Q E hr h => ?_), F.bindsN (fun _ _ _ _ _ _ us hl => match us, hl with | [_, _], _ => rfl), .nil, F.kp⟩
  · obtain ⟨p, v, n, rfl, _⟩ := h
    rfl
  · obtain ⟨p, v, n, rfl, hp, hn, zn, hv, k⟩ := h
    refine ⟨_, PSs.nox (pss_cons (ps_if (PW.pt (pw_and (pt_cmpR op_isN (pv 0) pe_non (nomark _)) (pw_and1 (pt_cmpR op_ne (pe_ix ix_tup (pv 1) pe_int (fun _ _ => rfl)) pe_int (nomark _))))) (pss_one (ps_ret (pe_joined (PJ.cons (pe_fmt (pe_ix ix_tup (pv 1) pe_int (fun _ _ => rfl))) (PJ.cons pe_str (PJ.cons (pe_fmt (pe_ix ix_tup (pv 1) pe_int (fun _ _ => rfl))) PJ.nil)))))) pss_nil)
      (pss_cons (ps_if (pt_cmpR op_isN (pv 0) pe_non (nomark _)) (pss_one (ps_ret (pe_callTy call_str_int (by rfl) T.f_str (by decide +kernel) (pa_cons (pe_ix ix_tup (pv 1) pe_int (fun _ _ => rfl)) pa_nil)))) pss_nil)
      (pss_one (ps_ret (pe_callTy call_str_int (by rfl) T.f_str (by decide +kernel) (pa_cons (pv 1) pa_nil)))))), ?_⟩
    match p, n, hn with
    | none, .q t b, hn =>
      obtain ⟨a, rfl, ha⟩ := hv
      have l1 := sInt_len zn.1
      have l2 := sInt_len zn.2
      have l3 := slash_len zn.1 zn.2
      walk_at "z"
      refine ⟨_, _, _, _, rfl, rfl, SqT.of' ha, rfl, ?_⟩
      walk_at "z"
      refine ifb (fun e => ?_) (fun e => ?_)
      · have e1 : b ≠ 1 := by simpa using e
        walk_at "z"
        refine ⟨_, _, _, _, rfl, rfl, SqT.of' ha, rfl, ?_⟩
        refine .inr ⟨t, rfl, log_lt zn.1, ?_⟩
        refine ⟨sInt t, rfl, ?_, ?_⟩
        · rw [empty_app, sizeLine_eq]
          omega
        walk_at "z"
        refine ⟨?_, ?_⟩
        · rw [empty_app, len_tl, tl_append, List.length_append, ← len_tl, sizeLine_eq]
          show (sInt t).length + 1 ≤ _
          omega
        walk_at "z"
        refine ⟨_, _, _, _, rfl, rfl, SqT.of' ha, rfl, ?_⟩
        refine .inr ⟨b, rfl, log_lt zn.2, ?_⟩
        refine ⟨sInt b, rfl, ?_, ?_⟩
        · rw [empty_app, sizeLine_eq]
          exact Nat.le_trans l3 (by decide)
        · show Q (.str (Str.empty ++ sInt t ++ "/" ++ sInt b)) H
          rw [empty_app]
          have : shown (.q t b) = sInt t ++ "/" ++ sInt b := if_neg e1
          rw [← this]
          exact k
      · have e1 : b = 1 := by simpa using e
        subst e1
        walk_at "z"
        refine ⟨_, _, _, _, rfl, rfl, SqT.of' ha, rfl, ?_⟩
        refine ⟨_, rfl, log_lt zn.1, k⟩
    | some p, .r a, hn =>
      have h3 := gd_pos hp
      obtain rfl : v = .int a := hv
      walk_at "z"
      refine ⟨log_lt (small_sz hn.1 (by have := hn.2; omega)), k⟩
def spDigits : Sp := fun vs H Q _ => ∃ (p : Option Int) (v : V) (n : Nm), vs = [pV p, v] ∧ GdOk p ∧ NOk p n ∧ (∀ t b, n = .q t b → t.natAbs < 2 ^ 640 ∧ b.natAbs < 2 ^ 640) ∧ RN H v n ∧ Q (.int (dg n)) H
theorem log_lt6 {n : Int} (h : n.natAbs < 2 ^ 640) : n.natAbs.log2 < 1920 := by
  have := PySem.Flt.log2_lt_of (k := 640) (by decide) h
  omega
theorem dl_small {n : Nat} (h : n < 2 ^ 640) : dl n ≤ 193 := numL_len (by decide) (Nat.lt_of_lt_of_le h (by decide))
theorem sc__law_digits : FnScope ["p", "x"] ["p", "x"] (defScope s__law_digits) := ⟨rfl, rfl, rfl, by decide +kernel, rfl, by decide +kernel, by decide +kernel⟩
theorem ok__law_digits (T : Tx K mg) : Fk P w K mg base CX0 1 (He.fAd K d__law_digits.at_) ["p", "x"] [] spDigits := by
  obtain ⟨fd, F⟩ := T.D__law_digits
  refine ⟨fd, [], FunD.ok F sc__law_digits (fun vs H Q E h => ?_) (fun cdv A outer s H vs Q E hr h => ?_), F.bindsN (fun _ _ _ _ _ _ us hl => match us, hl with | [_, _], _ => rfl), .nil, F.kp⟩
  · obtain ⟨p, v, n, rfl, _⟩ := h
    rfl
  · obtain ⟨p, v, n, rfl, hp, hn, zn, hv, k⟩ := h
    refine ⟨_, PSs.nox (pss_cons (ps_if (pt_cmpR op_isN (pv 0) pe_non (nomark _)) (pss_one (ps_ret (pe_callB (call_max2 rfl) (by rfl) T.f_max (by decide +kernel) (pa_cons (pe_callB call_len_str (by rfl) T.f_len PySem.boot_len (pa_cons (pe_callTy call_str_int (by rfl) T.f_str (by decide +kernel) (pa_cons (pe_callB call_abs (by rfl) T.f_abs (by decide +kernel) (pa_cons (pe_ix ix_tup (pv 1) pe_int (fun _ _ => rfl)) pa_nil)) pa_nil)) pa_nil)) (pa_cons (pe_callB call_len_str (by rfl) T.f_len PySem.boot_len (pa_cons (pe_callTy call_str_int (by rfl) T.f_str (by decide +kernel) (pa_cons (pe_ix ix_tup (pv 1) pe_int (fun _ _ => rfl)) pa_nil)) pa_nil)) pa_nil))))) pss_nil)
      (pss_one (ps_ret pe_int))), ?_⟩
    match p, n, hn with
    | none, .q t b, hn =>
      obtain ⟨a, rfl, ha⟩ := hv
      obtain ⟨z1, z2⟩ := zn t b rfl
      have d1 := dl_small z1
      have d2 := dl_small z2
      have b0 : 0 ≤ b := Int.le_of_lt hn.1
      have ea : (if t < 0 then -t else t) = ((t.natAbs : Nat) : Int) := by split <;> omega
      have la : (sInt ((t.natAbs : Nat) : Int)).length = dl t.natAbs := by rw [len_tl, tl_sInt_nn (by omega), Int.natAbs_natCast]; rfl
      have lb : (sInt b).length = dl b.natAbs := by rw [len_tl, tl_sInt_nn b0]; rfl
      walk_at "z"
      refine ⟨_, _, _, _, rfl, rfl, SqT.of' ha, rfl, ?_⟩
      walk_at "z"
      refine ⟨?_, ?_⟩
      · show (if t < 0 then -t else t).natAbs.log2 < 1920
        rw [ea, Int.natAbs_natCast]
        exact log_lt6 z1
      walk_at "z"
      refine ⟨?_, ?_⟩
      · show (sInt (if t < 0 then -t else t)).length ≤ sizeLine
        rw [ea, la, sizeLine_eq]
        omega
      walk_at "z"
      refine ⟨_, _, _, _, rfl, rfl, SqT.of' ha, rfl, ?_⟩
      refine ⟨_, rfl, log_lt6 z2, ?_⟩
      walk_at "z"
      refine ⟨?_, ?_⟩
      · show (sInt b).length ≤ sizeLine
        rw [lb, sizeLine_eq]
        omega
      walk_at "z"
      have e : (if (((sInt b).length : Nat) : Int) > (((sInt (if t < 0 then -t else t)).length : Nat) : Int) then (((sInt b).length : Nat) : Int) else (((sInt (if t < 0 then -t else t)).length : Nat) : Int)) = ((dg (.q t b) : Nat) : Int) := by
        rw [ea, la, lb]
        show _ = ((max (dl t.natAbs) (dl b.natAbs) : Nat) : Int)
        split <;> omega
      show Q (.int (if (((sInt b).length : Nat) : Int) > (((sInt (if t < 0 then -t else t)).length : Nat) : Int) then (((sInt b).length : Nat) : Int) else (((sInt (if t < 0 then -t else t)).length : Nat) : Int))) H
      rw [e]
      exact k
    | some p, .r a, hn =>
      obtain rfl : v = .int a := hv
      walk_at "z"
      exact k
end

/-! ### the jar -/
structure JarAt (H : Hp) (j g s : Addr) : Prop where
  njg : j ≠ g
  nsj : s ≠ j
  nsg : s ≠ g
  ex : ∃ (gs ss : List Int) (t st : Int), H j = some (.lst [.ref g, .ref s, .int t, .int st]) ∧ H g = some (.lst (gs.map V.int)) ∧ H s = some (.lst (ss.map V.int)) ∧ ss ≠ [] ∧ gs.length ≤ 64 ∧ 0 ≤ st ∧ st < 2305843009213693951
theorem JarAt.fix {M : List Addr} {H H' : Hp} {j g s : Addr} (h : JarAt H j g s) (f : Fix M H H') (hj : j ∉ M) (hg : g ∉ M) (hs : s ∉ M) : JarAt H' j g s := by
  obtain ⟨n1, n2, n3, gs, ss, t, st, h3, h4, h5, h6⟩ := h
  exact ⟨n1, n2, n3, gs, ss, t, st, f.lst h3 hj, f.lst h4 hg, f.lst h5 hs, h6⟩
theorem JarAt.ex' {H H' : Hp} {j g s : Addr} (h : JarAt H j g s) (e : Same H H') : JarAt H' j g s := h.fix (M := []) (Fix.of e) (by simp) (by simp) (by simp)
theorem dp_ints {K : PySem.W.Frag} {H : Hp} : ∀ ns : List Int, DpAll K H (ns.map V.int) (ns.map PyData.int)
  | [] => .nil
  | n :: r => .cons (.int n) (dp_ints r)
theorem lay_ints : ∀ ns : List Int, PyData.canLayAll0 (ns.map PyData.int) = true
  | [] => rfl
  | n :: r => by
    show (PyData.canLay0 (.int n) && PyData.canLayAll0 (r.map PyData.int)) = true
    rw [lay_ints r]
    rfl
theorem depth_ints : ∀ ns : List Int, PyData.depthAll (ns.map PyData.int) = 0
  | [] => rfl
  | n :: r => by
    show max (PyData.depth (.int n)) (PyData.depthAll (r.map PyData.int)) = 0
    rw [depth_ints r]
    rfl
theorem shaped_ints (ns : List Int) : SeqAt.shaped (.list (ns.map PyData.int)) = true := by
  unfold SeqAt.shaped
  show (PyData.canLayAll0 (ns.map PyData.int) && decide (PyData.depthAll (ns.map PyData.int) + 1 ≤ 64)) = true
  rw [lay_ints, depth_ints]
  rfl
section
variable {P : Program} {w : World} {K : PySem.W.Frag} {mg : Str → Option Value} {base : Heap}
/-- _law_take: some number below the bound; the jar is a jar again, all else stands -/
def spTake : Sp := fun vs H Q _ => ∃ (j g s : Addr) (b : Int), vs = [.ref j, .int b] ∧ 0 < b ∧ b < 2 ^ 63 ∧ JarAt H j g s ∧ ∀ r H', 0 ≤ r → r < b → JarAt H' j g s → Fix [j, g] H H' → Q (.int r) H'
theorem fix2 {H H' : Hp} {j g : Addr} (hj : ∃ xs, H j = some (.lst xs)) (hg : ∃ xs, H g = some (.lst xs)) (h : ∀ b, H b ≠ none → b ≠ j → b ≠ g → H' b = H b) : Fix [j, g] H H' := fun b o e n => by
  by_cases bj : b = j
  · subst bj
    obtain ⟨xs, hx⟩ := hj
    rw [hx] at e
    exact absurd (Option.some.inj e).symm (n (List.mem_cons_self ..) xs)
  · by_cases bg : b = g
    · subst bg
      obtain ⟨xs, hx⟩ := hg
      rw [hx] at e
      exact absurd (Option.some.inj e).symm (n (List.mem_cons_of_mem _ (List.mem_cons_self ..)) xs)
    · rw [h b (by rw [e]; simp) bj bg]
      exact e
theorem div_ok {b : Int} (h0 : 0 < b) (h1 : b < 2 ^ 63) : CDivW 0 b := ⟨h0, by
  have := PySem.Flt.log2_lt_of (k := 63) (n := b.natAbs) (by decide) (by omega)
  omega⟩
theorem sc__law_take : FnScope ["jar", "bound", "small", "cell"] ["jar", "bound"] (defScope s__law_take) := ⟨rfl, rfl, rfl, by decide +kernel, rfl, by decide +kernel, by decide +kernel⟩
theorem ok__law_take (T : Tx K mg) : Fk P w K mg base CX0 1 (He.fAd K d__law_take.at_) ["jar", "bound"] [] spTake := by
  obtain ⟨fd, F⟩ := T.D__law_take
  refine ⟨fd, [], FunD.ok F sc__law_take (fun vs H Q E h => ?_) (fun cdv A outer s H vs Q E hr h => ?_), F.bindsN (fun _ _ _ _ _ _ us hl => match us, hl with | [_, _], _ => rfl), .nil, F.kp⟩
  · obtain ⟨j, g, s, b, rfl, _⟩ := h
    rfl
  · obtain ⟨j, g, s, b, rfl, h0, h1, ⟨njg, sj, sg, gs, ss, t, st, hj, hg, hs, nss, lg, st0, st1⟩, k⟩ := h
    refine ⟨_, PSs.nox (pss_cons (ps_asg (pe_op op_add (pe_ix ix_list (pv 0) pe_int (fun _ _ => rfl)) pe_int) (pg_sub (pv 0) pe_int set_list))
      (pss_cons (ps_if (pt_cmpR (op_neD hr.units) (pe_ix ix_list (pv 0) pe_int (fun _ _ => rfl)) (pe_lst pa_nil) (nomark _)) (pss_cons (ps_set (i := 3) sc__law_take.nd rfl (Or.inl rfl) (pe_ix ix_list (pe_ix ix_list (pv 0) pe_int (fun _ _ => rfl)) pe_int (fun _ _ => rfl)))
      (pss_cons (ps_asg (pe_op op_fdivW (pe_callTy call_int1 (by rfl) T.f_int (by decide +kernel) (pa_cons (pv 3) pa_nil)) (pv 1)) (pg_sub (pe_ix ix_list (pv 0) pe_int (fun _ _ => rfl)) pe_int set_list))
      (pss_cons (ps_if (pt_cmpR op_lt (pe_ix ix_list (pe_ix ix_list (pv 0) pe_int (fun _ _ => rfl)) pe_int (fun _ _ => rfl)) (pe_op op_pow pe_int pe_int) (nomark _)) (pss_one (ps_asg (pe_op op_mod (pe_callTy call_int1 (by rfl) T.f_int (by decide +kernel) (pa_cons (pe_op op_add (pe_ix ix_list (pv 0) pe_int (fun _ _ => rfl)) (pe_bm PySem.F.plainAttrs_list PySem.F.slot_list_pop PySem.F.type_list_pop mt_popAt (pe_ix ix_list (pv 0) pe_int (fun _ _ => rfl)) (pa_cons pe_int pa_nil))) pa_nil)) pe_int) (pg_sub (pv 0) pe_int set_list))) pss_nil)
      (pss_one (ps_ret (pe_op op_mod (pe_callTy call_int1 (by rfl) T.f_int (by decide +kernel) (pa_cons (pv 3) pa_nil)) (pv 1))))))) pss_nil)
      (pss_cons (ps_set (i := 2) sc__law_take.nd rfl (Or.inl rfl) (pe_ix ix_list (pe_ix ix_list (pv 0) pe_int (fun _ _ => rfl)) (pe_op op_mod (pe_callTy call_int1 (by rfl) T.f_int (by decide +kernel) (pa_cons (pe_ix ix_list (pv 0) pe_int (fun _ _ => rfl)) pa_nil)) (pe_callB call_len_seq (by rfl) T.f_len PySem.boot_len (pa_cons (pe_ix ix_list (pv 0) pe_int (fun _ _ => rfl)) pa_nil))) (fun _ _ => rfl)))
      (pss_cons (ps_asg (pe_op op_mod (pe_callTy call_int1 (by rfl) T.f_int (by decide +kernel) (pa_cons (pe_op op_add (pe_op op_add (pe_op op_add (pe_op op_mul (pe_op op_mul (pe_ix ix_list (pv 0) pe_int (fun _ _ => rfl)) (pe_ix ix_list (pv 0) pe_int (fun _ _ => rfl))) pe_int) (pe_op op_mul (pv 2) pe_int)) (pe_op op_mul (pe_ix ix_list (pv 0) pe_int (fun _ _ => rfl)) pe_int)) pe_int) pa_nil)) pe_int) (pg_sub (pv 0) pe_int set_list))
      (pss_one (ps_ret (pe_op op_mod (pe_callTy call_int1 (by rfl) T.f_int (by decide +kernel) (pa_cons (pe_op op_fdivW (pe_ix ix_list (pv 0) pe_int (fun _ _ => rfl)) pe_int) pa_nil)) (pv 1)))))))), ?_⟩
    -- jar[2] = jar[2] + 1
    walk_at "z"
    refine ⟨_, _, _, _, rfl, rfl, SqL.of' hj, rfl, ?_⟩
    walk_at "z"
    refine ⟨_, _, _, _, rfl, rfl, hj, rfl, ?_⟩
    generalize hH1 : upd H j _ = H1
    have hj1 : H1 j = some (.lst [.ref g, .ref s, .int (t + 1), .int st]) := by rw [← hH1]; exact upd_same
    have o1 : ∀ b, b ≠ j → H1 b = H b := fun b n => by rw [← hH1]; exact upd_ne n
    have hg1 : H1 g = some (.lst (gs.map V.int)) := (o1 g njg.symm).trans hg
    have hs1 : H1 s = some (.lst (ss.map V.int)) := (o1 s sj).trans hs
    -- if jar[0] != []
    walk_at "z"
    refine ⟨_, _, _, _, rfl, rfl, SqL.of' hj1, rfl, ?_⟩
    refine ⟨Nat.zero_le _, fun q hq => ?_⟩
    have hgq : upd H1 q (.lst []) g = some (.lst (gs.map V.int)) := by rw [upd_ne (ne_of_none hg1 hq)]; exact hg1
    have hjq : upd H1 q (.lst []) j = some (.lst [.ref g, .ref s, .int (t + 1), .int st]) := by rw [upd_ne (ne_of_none hj1 hq)]; exact hj1
    have hsq : upd H1 q (.lst []) s = some (.lst (ss.map V.int)) := by rw [upd_ne (ne_of_none hs1 hq)]; exact hs1
    have o2 : ∀ b, H b ≠ none → b ≠ j → upd H1 q (.lst []) b = H b := fun b n nj => by
      rw [upd_ne (fun z => by rw [z, ← o1 q (ne_of_none hj1 hq).symm] at n; exact n hq)]
      exact o1 b nj
    refine ⟨.list (gs.map PyData.int), .list [], .lst (SqL.of' hgq) (dp_ints gs), .lst (SqL.of' upd_same) .nil, shaped_ints gs, by decide, ?_⟩
    generalize upd H1 q (.lst []) = H2 at *
    walk_at "z"
    cases gs with
    | cons c gs =>
      refine ifT rfl ?_
      -- cell = jar[0][0]
      walk_at "z"
      refine ⟨_, _, _, _, rfl, rfl, SqL.of' hjq, rfl, ?_⟩
      walk_at "z"
      refine ⟨_, _, _, _, rfl, rfl, SqL.of' hgq, at_of (j := 0) rfl rfl, ?_⟩
      -- jar[0][0] = int(cell) // bound
      walk_at "z"
      refine .inl ⟨_, rfl, ?_⟩
      walk_at "z"
      refine ⟨div_ok h0 h1, ?_⟩
      walk_at "z"
      refine ⟨_, _, _, _, rfl, rfl, SqL.of' hjq, rfl, ?_⟩
      walk_at "z"
      refine ⟨_, _, _, _, rfl, rfl, hgq, ix_of (k := 0) rfl (by simp), ?_⟩
      have o3 : ∀ xs : List V, ∀ b, H b ≠ none → b ≠ j → b ≠ g → upd H2 g (.lst xs) b = H b := fun xs b n nj ng => by
        rw [upd_ne ng]
        exact o2 b n nj
      have hj3 : ∀ xs : List V, upd H2 g (.lst xs) j = some (.lst [.ref g, .ref s, .int (t + 1), .int st]) := fun xs => by rw [upd_ne njg]; exact hjq
      have hs3 : ∀ xs : List V, upd H2 g (.lst xs) s = some (.lst (ss.map V.int)) := fun xs => by rw [upd_ne sg]; exact hsq
      -- if jar[0][0] < 10 ** 18
      walk_at "z"
      refine ⟨_, _, _, _, rfl, rfl, SqL.of' (hj3 _), rfl, ?_⟩
      walk_at "z"
      refine ⟨_, _, _, _, rfl, rfl, SqL.of' upd_same, at_of (j := 0) rfl rfl, ?_⟩
      walk_at "z"
      refine ⟨⟨by decide, by decide, by decide⟩, ?_⟩
      walk_at "z"
      have m0 := Int.emod_nonneg c (show b ≠ 0 by omega)
      have m1 := Int.emod_lt_of_pos c h0
      refine ifb (fun e => ?_) (fun e => ?_)
      · -- jar[3] = int(jar[3] + jar[0].pop(0)) % m
        walk_at "z"
        refine ⟨_, _, _, _, rfl, rfl, SqL.of' (hj3 _), rfl, ?_⟩
        walk_at "z"
        refine ⟨_, _, _, _, rfl, rfl, SqL.of' (hj3 _), rfl, ?_⟩
        refine ⟨.inl ⟨rfl, _, SqL.of' upd_same⟩, ?_⟩
        walk_at "z"
        refine ⟨_, _, _, 0, _, rfl, rfl, upd_same, by decide, by decide, (ixN_seq (ix_of (k := 0) rfl (by simp))).1, rfl, ?_⟩
        walk_at "z"
        refine .inl ⟨_, rfl, ?_⟩
        walk_at "z"
        refine ⟨by show (0 : Int) < 2305843009213693951; decide, ?_⟩
        walk_at "z"
        rw [upd_upd]
        refine ⟨_, _, _, _, rfl, rfl, hj3 _, rfl, ?_⟩
        walk_at "z"
        refine .inl ⟨_, rfl, ?_⟩
        walk_at "z"
        refine ⟨h0, ?_⟩
        have q0 : ∀ z : Int, 0 ≤ z % 2305843009213693951 ∧ z % 2305843009213693951 < 2305843009213693951 := fun z => ⟨Int.emod_nonneg _ (by decide), Int.emod_lt_of_pos _ (by decide)⟩
        refine k _ _ m0 m1 ⟨njg, sj, sg, gs, ss, t + 1, _, upd_same, ?_, ?_, nss, by have := lg; rw [List.length_cons] at this; omega, (q0 _).1, (q0 _).2⟩ (fix2 ⟨_, hj⟩ ⟨_, hg⟩ fun b nn nj ng => ?_)
        · rw [upd_ne njg.symm, upd_same]
          rfl
        · rw [upd_ne sj]
          exact hs3 _
        · rw [upd_ne nj]
          exact o3 _ b nn nj ng
      · walk_at "z"
        refine .inl ⟨_, rfl, ?_⟩
        walk_at "z"
        refine ⟨h0, ?_⟩
        refine k _ _ m0 m1 ⟨njg, sj, sg, c / b :: gs, ss, t + 1, st, hj3 _, upd_same, hs3 _, nss, lg, st0, st1⟩ (fix2 ⟨_, hj⟩ ⟨_, hg⟩ fun b nn nj ng => o3 _ b nn nj ng)
    | nil =>
      refine ifF rfl ?_
      have ls : 0 < ss.length := List.length_pos_iff.mpr nss
      have q0 : ∀ z : Int, 0 ≤ z % 2305843009213693951 ∧ z % 2305843009213693951 < 2305843009213693951 := fun z => ⟨Int.emod_nonneg _ (by decide), Int.emod_lt_of_pos _ (by decide)⟩
      obtain ⟨r, hr⟩ : ∃ r : Nat, (t + 1) % (ss.length : Int) = r := ⟨((t + 1) % (ss.length : Int)).toNat, by have := Int.emod_nonneg (t + 1) (show (ss.length : Int) ≠ 0 by omega); omega⟩
      have hr2 : r < ss.length := by have := Int.emod_lt_of_pos (t + 1) (show (0 : Int) < ss.length by omega); omega
      walk_at "z"
      refine ⟨_, _, _, _, rfl, rfl, SqL.of' hjq, rfl, ?_⟩
      walk_at "z"
      refine ⟨_, _, _, _, rfl, rfl, SqL.of' hjq, rfl, ?_⟩
      refine .inl ⟨_, rfl, ?_⟩
      walk_at "z"
      refine ⟨_, _, _, _, rfl, rfl, SqL.of' hjq, rfl, ?_⟩
      refine ⟨_, _, rfl, .inl (SqL.of' hsq), ?_⟩
      walk_at "z"
      refine ⟨by show (0 : Int) < ((ss.map V.int).length : Nat); rw [List.length_map]; omega, ?_⟩
      refine ⟨_, _, _, .int ss[r], rfl, rfl, SqL.of' hsq, at_of (j := r) (by show (t + 1) % ((ss.map V.int).length : Int) = r; rw [List.length_map]; exact hr) (by rw [List.getElem?_map, List.getElem?_eq_getElem hr2]; rfl), ?_⟩
      -- jar[3] = ..
      walk_at "z"
      refine ⟨_, _, _, _, rfl, rfl, SqL.of' hjq, rfl, ?_⟩
      walk_at "z"
      refine ⟨_, _, _, _, rfl, rfl, SqL.of' hjq, rfl, ?_⟩
      walk_at "z"
      refine ⟨.inl ⟨by omega, by omega⟩, ?_⟩
      walk_at "z"
      refine ⟨.inr ⟨by decide, by decide⟩, ?_⟩
      walk_at "z"
      refine ⟨.inr ⟨by decide, by decide⟩, ?_⟩
      walk_at "z"
      refine ⟨_, _, _, _, rfl, rfl, SqL.of' hjq, rfl, ?_⟩
      walk_at "z"
      refine ⟨.inr ⟨by decide, by decide⟩, ?_⟩
      walk_at "z"
      refine .inl ⟨_, rfl, ?_⟩
      walk_at "z"
      refine ⟨by show (0 : Int) < 2305843009213693951; decide, ?_⟩
      walk_at "z"
      refine ⟨_, _, _, _, rfl, rfl, hjq, rfl, ?_⟩
      -- return
      walk_at "z"
      refine ⟨_, _, _, _, rfl, rfl, SqL.of' upd_same, rfl, ?_⟩
      walk_at "z"
      refine ⟨⟨by decide, by decide⟩, ?_⟩
      refine .inl ⟨_, rfl, ?_⟩
      walk_at "z"
      refine ⟨h0, ?_⟩
      refine k _ _ (Int.emod_nonneg _ (by omega)) (Int.emod_lt_of_pos _ h0) ⟨njg, sj, sg, [], ss, t + 1, _, upd_same, ?_, ?_, nss, lg, (q0 _).1, (q0 _).2⟩ (fix2 ⟨_, hj⟩ ⟨_, hg⟩ fun b nn nj ng => ?_)
      · rw [upd_ne njg.symm]
        exact hgq
      · rw [upd_ne sj]
        exact hsq
      · rw [upd_ne nj]
        exact o2 b nn nj
end

section
variable {P : Program} {w : World} {K : PySem.W.Frag} {mg : Str → Option Value} {base : Heap}
/-- _law_pick: some item -/
def spPick : Sp := fun vs H Q _ => ∃ (j g s a : Addr) (xs : List V), vs = [.ref j, .ref a] ∧ JarAt H j g s ∧ H a = some (.lst xs) ∧ a ≠ j ∧ a ≠ g ∧ xs ≠ [] ∧ xs.length ≤ 1000 ∧ ∀ v H', v ∈ xs → JarAt H' j g s → Fix [j, g] H H' → Q v H'
theorem sc__law_pick : FnScope ["jar", "things"] ["jar", "things"] (defScope s__law_pick) := ⟨rfl, rfl, rfl, by decide +kernel, rfl, by decide +kernel, by decide +kernel⟩
theorem ok__law_pick (T : Tx K mg) : Fk P w K mg base CX0 2 (He.fAd K d__law_pick.at_) ["jar", "things"] [] spPick := by
  obtain ⟨fd, F⟩ := T.D__law_pick
  refine ⟨fd, [], FunD.ok F sc__law_pick (fun vs H Q E h => ?_) (fun cdv A outer s H vs Q E hr h => ?_), F.bindsN (fun _ _ _ _ _ _ us hl => match us, hl with | [_, _], _ => rfl), .nil, F.kp⟩
  · obtain ⟨j, g, s, a, xs, rfl, _⟩ := h
    rfl
  · obtain ⟨j, g, s, a, xs, rfl, hj, ha, naj, nag, hne, hl, k⟩ := h
    refine ⟨_, PSs.nox (pss_one (ps_ret (pe_ix ix_list (pv 1) (qcall ((ok__law_take T).mono (by decide)) hr T.g__law_take pass0 (pa_cons (pv 0) (pa_cons (pe_callB call_len_seq (by rfl) T.f_len PySem.boot_len (pa_cons (pv 1) pa_nil)) pa_nil))) (fun _ _ => rfl)))), ?_⟩
    have ls : 0 < xs.length := List.length_pos_iff.mpr hne
    walk_at "z"
    refine ⟨_, _, rfl, .inl (SqL.of' ha), ?_⟩
    refine ⟨j, g, s, _, rfl, by omega, by omega, hj, fun r H1 r0 r1 hj1 f1 => ?_⟩
    have ha1 := f1.lst ha (by simp [naj, nag])
    obtain ⟨i, rfl⟩ := Int.eq_ofNat_of_zero_le r0
    have hi : i < xs.length := by omega
    refine ⟨_, _, _, xs[i], rfl, rfl, SqL.of' ha1, at_of (j := i) rfl (List.getElem?_eq_getElem hi), k _ _ (List.getElem_mem hi) hj1 f1⟩
/-! ### _law_whole -/
def spWhole : Sp := fun vs H Q _ => ∃ (j g s : Addr) (p : Option Int), vs = [.ref j, pV p] ∧ GdOk p ∧ JarAt H j g s ∧ ∀ n H', n.natAbs < 10 ^ 60 → JarAt H' j g s → Fix [j, g] H H' → Q (.int n) H'
theorem val_lt : ∀ (cs : List Nat) (a : Nat), NumText.AllDigits cs → cs.foldl (fun acc c => acc * 10 + (c - 48)) a < (a + 1) * 10 ^ cs.length
  | [], a, _ => by
    show a < (a + 1) * 1
    omega
  | c :: r, a, h => by
    have ih := val_lt r (a * 10 + (c - 48)) h.tail
    have hc := h.head
    rw [List.foldl_cons]
    refine Nat.lt_of_lt_of_le ih ?_
    rw [List.length_cons, Nat.pow_succ, Nat.mul_comm (10 ^ r.length) 10, ← Nat.mul_assoc]
    exact Nat.mul_le_mul_right _ (by omega)
theorem val_lt' {cs : List Nat} (h : NumText.AllDigits cs) : NumText.digitsVal cs < 10 ^ cs.length := by
  have := val_lt cs 0 h
  rw [Nat.zero_add, Nat.one_mul] at this
  exact this
/-- int of the first signs of a number's text -/
theorem int_cut {n : Int} (h0 : 0 ≤ n) (h1 : n < 10 ^ 60) {r : Nat} : ∃ m : Nat, intText? (cutS (sInt n) none (some (1 + (r : Int)))) = some (m : Int) ∧ m < 10 ^ 60 ∧ (cutS (sInt n) none (some (1 + (r : Int)))).length ≤ 60 := by
  have hl : (sInt n).length ≤ 60 := by
    rw [len_tl, tl_sInt_nn h0]
    exact numL_len (by decide) (by omega)
  have hd : NumText.AllDigits (tl (sInt n)) := by rw [tl_sInt_nn h0]; exact numL_digits _
  have hne : 0 < (tl (sInt n)).length := List.length_pos_iff.mpr (by rw [tl_sInt_nn h0]; exact numL_ne _)
  have ec : tl (cutS (sInt n) none (some (1 + (r : Int)))) = (tl (sInt n)).take (min (1 + r) (sInt n).length) := by
    unfold cutS
    show ((tl (sInt n)).drop 0).take (HT.sIx (sInt n).length (sInt n).length (some (1 + (r : Int))) - 0) = _
    rw [show (1 + (r : Int)) = ((1 + r : Nat) : Int) by omega, HT.sIx_nat, List.drop_zero, Nat.sub_zero]
  have hda : NumText.AllDigits (tl (cutS (sInt n) none (some (1 + (r : Int))))) := by
    rw [ec]
    exact fun c hc => hd c (List.mem_of_mem_take hc)
  have hl2 : (tl (cutS (sInt n) none (some (1 + (r : Int))))).length ≤ 60 := by
    rw [ec, List.length_take]
    rw [len_tl] at hl ⊢
    omega
  have hn2 : tl (cutS (sInt n) none (some (1 + (r : Int)))) ≠ [] := by
    refine List.length_pos_iff.mp ?_
    rw [ec, List.length_take, len_tl]
    omega
  refine ⟨_, intText_digits hda hn2 (by rw [len_tl]; omega), Nat.lt_of_lt_of_le (val_lt' hda) (Nat.pow_le_pow_right (by decide) hl2), by rw [len_tl]; exact hl2⟩
def WhI (j g s : Addr) (p : Option Int) (kind : Int) (H : Hp) (σ : L2.St) (H1 : Hp) : Prop :=
  ∃ (n : Int) (v : Option V), σ = [some (.ref j), some (pV p), some (.int kind), some (.int n), v] ∧ n.natAbs < 10 ^ 60 ∧ JarAt H1 j g s ∧ Fix [j, g] H H1
theorem sc__law_whole : FnScope ["jar", "p", "kind", "n", "k"] ["jar", "p"] (defScope s__law_whole) := ⟨rfl, rfl, rfl, by decide +kernel, rfl, by decide +kernel, by decide +kernel⟩
theorem ok__law_whole (T : Tx K mg) : Fk P w K mg base CX0 2 (He.fAd K d__law_whole.at_) ["jar", "p"] [] spWhole := by
  obtain ⟨fd, F⟩ := T.D__law_whole
  refine ⟨fd, [], FunD.ok F sc__law_whole (fun vs H Q E h => ?_) (fun cdv A outer s H vs Q E hr h => ?_), F.bindsN (fun _ _ _ _ _ _ us hl => match us, hl with | [_, _], _ => rfl), .nil, F.kp⟩
  · obtain ⟨j, g, s, p, rfl, _⟩ := h
    rfl
  · obtain ⟨j, g, s, p, rfl, hp, hj, k⟩ := h
    refine ⟨_, PSs.nox (pss_cons (ps_set (i := 2) sc__law_whole.nd rfl (Or.inl rfl) (qcall ((ok__law_take T).mono (by decide)) hr T.g__law_take pass0 (pa_cons (pv 0) (pa_cons pe_int pa_nil))))
      (pss_cons (ps_set (i := 3) sc__law_whole.nd rfl (Or.inl rfl) (qcall ((ok__law_take T).mono (by decide)) hr T.g__law_take pass0 (pa_cons (pv 0) (pa_cons (pe_op op_pow pe_int pe_int) pa_nil))))
      (C8.pss_cut (ps_for PassesOwn.never rfl (pi_range1 (by rfl) T.f_range (pa_cons pe_int pa_nil)) (pg_name (i := 4) sc__law_whole.nd rfl (Or.inl rfl)) (pss_one (ps_set (i := 3) sc__law_whole.nd rfl (Or.inl rfl) (pe_op op_add (pe_op op_mul (pv 3) (pe_op op_pow pe_int pe_int)) (qcall ((ok__law_take T).mono (by decide)) hr T.g__law_take pass0 (pa_cons (pv 0) (pa_cons (pe_op op_pow pe_int pe_int) pa_nil)))))))
      (C8.pss_cut (ps_set (i := 3) sc__law_whole.nd rfl (Or.inl rfl) (pe_callTy call_int_str (by rfl) T.f_int (by decide +kernel) (pa_cons (pe_slice sl_str (pe_callTy call_str_int (by rfl) T.f_str (by decide +kernel) (pa_cons (pv 3) pa_nil)) po_none (po_some (pe_op op_add pe_int (qcall ((ok__law_take T).mono (by decide)) hr T.g__law_take pass0 (pa_cons (pv 0) (pa_cons pe_int pa_nil)))))) pa_nil)))
      (C8.pss_cut (ps_if (pt_cmpR op_lt (pv 2) pe_int (nomark _)) (pss_one (ps_set (i := 3) sc__law_whole.nd rfl (Or.inl rfl) (qcall ((ok__law_take T).mono (by decide)) hr T.g__law_take pass0 (pa_cons (pv 0) (pa_cons pe_int pa_nil))))) pss_nil)
      (C8.pss_cut (ps_if (PW.pt (pw_and (pt_cmpR op_eq (pv 2) pe_int (nomark _)) (pw_and1 (pt_cmpR op_notN (pv 1) pe_non (nomark _))))) (pss_one (ps_set (i := 3) sc__law_whole.nd rfl (Or.inl rfl) (pe_op op_mul (pv 1) (qcall ((ok__law_take T).mono (by decide)) hr T.g__law_take pass0 (pa_cons (pv 0) (pa_cons pe_int pa_nil)))))) pss_nil)
      (pss_cons (ps_if (pt_cmpR op_eq (qcall ((ok__law_take T).mono (by decide)) hr T.g__law_take pass0 (pa_cons (pv 0) (pa_cons pe_int pa_nil))) pe_int (nomark _)) (pss_one (ps_set (i := 3) sc__law_whole.nd rfl (Or.inl rfl) (pe_un un_neg (pv 3)))) pss_nil)
      (pss_one (ps_ret (pv 3)))))))))), ?_⟩
    walk_at "z"
    refine ⟨j, g, s, _, rfl, by decide, by decide, hj, fun kind H1 a0 a1 hj1 f1 => ?_⟩
    walk_at "z"
    refine ⟨⟨by decide, by decide, by decide⟩, ?_⟩
    refine ⟨j, g, s, _, rfl, by decide, by decide, hj1, fun n0 H2 b0 b1 hj2 f2 => ?_⟩
    have f12 := f1.trans f2
    walk_at "z"
    refine ⟨fun σ H1 => ∃ (n : Int) (v : Option V), σ = [some (.ref j), some (pV p), some (.int kind), some (.int n), v] ∧ 0 ≤ n ∧ n < 10 ^ 60 ∧ JarAt H1 j g s ∧ Fix [j, g] H H1, ⟨_, rfl, by decide, by decide, for_range (n := 4) (fun i σ H1 => ∃ (n : Int) (v : Option V), σ = [some (.ref j), some (pV p), some (.int kind), some (.int n), v] ∧ 0 ≤ n ∧ n < 10 ^ (12 * (i + 1)) ∧ JarAt H1 j g s ∧ Fix [j, g] H H1)
      ⟨n0, none, rfl, b0, b1, hj2, f12⟩ ?_ ?_⟩, ?_⟩
    · rintro i σ H3 hi ⟨n, v, rfl, n1, n2, hj3, f3⟩
      walk_at "z"
      refine ⟨⟨by decide, by decide, by decide⟩, ?_⟩
      walk_at "z"
      refine ⟨.inr ⟨by decide, by decide⟩, ?_⟩
      walk_at "z"
      refine ⟨⟨by decide, by decide, by decide⟩, ?_⟩
      refine ⟨j, g, s, _, rfl, by decide, by decide, hj3, fun r H4 r0 r1 hj4 f4 => ?_⟩
      have r1' : r < 10 ^ 12 := r1
      have e12 : (10 : Int) ^ (12 * (i + 1 + 1)) = 10 ^ (12 * (i + 1)) * 10 ^ 12 := by rw [← Int.pow_add]; congr 1
      have hn : n * 10 ^ 12 + r < 10 ^ (12 * (i + 1 + 1)) := by
        rw [e12]
        have : (n + 1) * 10 ^ 12 ≤ 10 ^ (12 * (i + 1)) * 10 ^ 12 := Int.mul_le_mul_of_nonneg_right (by omega) (by decide)
        omega
      exact ⟨_, _, rfl, rfl, n * 10 ^ 12 + r, some (.int (0 + (i : Int))), rfl, by omega, hn, hj4, f3.trans f4⟩
    · rintro σ H3 ⟨n, v, rfl, n1, n2, hj3, f3⟩
      exact ⟨n, v, rfl, n1, n2, hj3, f3⟩
    -- n = int(str(n)[:1 + _law_take(jar, 60)])
    rintro σ H3 ⟨n, v, rfl, n1, n2, hj3, f3⟩
    have n2' : n < 10 ^ 60 := n2
    have lg : (sInt n).length ≤ 60 := by
      rw [len_tl, tl_sInt_nn n1]
      exact numL_len (by decide) (by omega)
    have lg2 : n.natAbs.log2 < 1920 := by
      have := PySem.Flt.log2_lt_of (k := 200) (n := n.natAbs) (by decide) (by omega)
      omega
    refine ⟨WhI j g s p kind H, ?_, ?_⟩
    · walk_at "z"
      refine ⟨lg2, ?_⟩
      walk_at "z"
      refine ⟨j, g, s, _, rfl, by decide, by decide, hj3, fun r H4 r0 r1 hj4 f4 => ?_⟩
      obtain ⟨r, rfl⟩ := Int.eq_ofNat_of_zero_le r0
      obtain ⟨m, em, hm, hl⟩ := int_cut (r := r) n1 n2'
      walk_at "z"
      refine ⟨by show (sInt n).length ≤ sizeLine; rw [sizeLine_eq]; omega, ?_⟩
      refine ⟨_, (m : Int), rfl, em, by show (cutS (sInt n) none (some (1 + (r : Int)))).length ≤ 640; omega, ?_⟩
      exact ⟨m, v, rfl, by omega, hj4, f3.trans f4⟩
    -- if kind < 4: n = _law_take(jar, 41)
    rintro σ H3 ⟨n, v, rfl, n1, hj3, f3⟩
    refine ⟨WhI j g s p kind H, ?_, ?_⟩
    · walk_at "z"
      refine ifb (fun e => ?_) (fun e => ?_)
      · walk_at "z"
        refine ⟨j, g, s, _, rfl, by decide, by decide, hj3, fun r H4 r0 r1 hj4 f4 => ?_⟩
        exact ⟨r, v, rfl, by omega, hj4, f3.trans f4⟩
      · exact ⟨n, v, rfl, n1, hj3, f3⟩
    -- if kind == 4 and p is not None: n = p * _law_take(jar, 7)
    rintro σ H3 ⟨n, v, rfl, n1, hj3, f3⟩
    refine ⟨WhI j g s p kind H, ?_, ?_⟩
    · walk_at "z"
      refine ifb (fun e => ?_) (fun e => ?_)
      · cases p with
        | none =>
          walk_at "z"
          exact ⟨n1, hj3, f3⟩
        | some p =>
          have hp3 := gd_pos hp
          walk_at "z"
          refine ⟨j, g, s, _, rfl, by decide, by decide, hj3, fun r H4 r0 r1 hj4 f4 => ?_⟩
          refine ⟨_, _, rfl, rfl, .inl ⟨by omega, by omega⟩, ?_⟩
          have : (p * r).natAbs ≤ 10007 * 7 := by
            rw [Int.natAbs_mul]
            exact Nat.mul_le_mul (by omega) (by omega)
          exact ⟨p * r, v, rfl, by omega, hj4, f3.trans f4⟩
      · walk_at "z"
        exact ⟨n1, hj3, f3⟩
    -- if _law_take(jar, 2) == 1: n = -n
    rintro σ H3 ⟨n, v, rfl, n1, hj3, f3⟩
    walk_at "z"
    refine ⟨j, g, s, _, rfl, by decide, by decide, hj3, fun r H4 r0 r1 hj4 f4 => ?_⟩
    walk_at "z"
    refine ifb (fun e => ?_) (fun e => ?_)
    · walk_at "z"
      exact k _ _ (by rw [Int.natAbs_neg]; exact n1) hj4 (f3.trans f4)
    · walk_at "z"
      exact k _ _ n1 hj4 (f3.trans f4)
end

section
variable {P : Program} {w : World} {K : PySem.W.Frag} {mg : Str → Option Value} {base : Heap}
/-- _law_jar: a jar, whatever the script -/
def spJar (K : PySem.W.Frag) : Sp := fun vs H Q _ => ∃ (a : Addr) (ns : List Int), vs = [.ref a] ∧ SqL K H a (ns.map V.int) ∧ ns.length ≤ 63 ∧ ∀ j g s H', Same H H' → H j = none → H g = none → H s = none → JarAt H' j g s → Q (.ref j) H'
theorem cut63 {ns : List Int} (h : ns.length ≤ 63) : cutV (ns.map V.int) none (some 63) = ns.map V.int := by
  unfold cutV
  rw [List.length_map, HT.sIx_none, List.drop_zero, Nat.sub_zero]
  rw [show (63 : Int) = ((63 : Nat) : Int) from rfl, HT.sIx_nat]
  exact List.take_of_length_le (by rw [List.length_map]; omega)
theorem filt_len {ns : List Int} (p : Int → Bool) (h : ns.length ≤ 63) : (ns.filter p).length ≤ 63 := Nat.le_trans (List.length_filter_le _ _) h
theorem filt_true {α : Type} (l : List α) : l.filter (fun _ => true) = l := List.filter_eq_self.mpr fun _ _ => rfl
theorem sc__law_jar : FnScope ["script", "cells", "state", "cell", "great"] ["script"] (defScope s__law_jar) := ⟨rfl, rfl, rfl, by decide +kernel, rfl, by decide +kernel, by decide +kernel⟩
theorem ok__law_jar (T : Tx K mg) : Fk P w K mg base CX0 1 (He.fAd K d__law_jar.at_) ["script"] [] (spJar K) := by
  obtain ⟨fd, F⟩ := T.D__law_jar
  refine ⟨fd, [], FunD.ok F sc__law_jar (fun vs H Q E h => ?_) (fun cdv A outer s H vs Q E hr h => ?_), F.bindsN (fun _ _ _ _ _ _ us hl => match us, hl with | [_], _ => rfl), .nil, F.kp⟩
  · obtain ⟨a, ns, rfl, _⟩ := h
    rfl
  · obtain ⟨a, ns, rfl, ha, hl, k⟩ := h
    refine ⟨_, PSs.nox (pss_cons (ps_setLc (i := 1) (own := [("cell", 3)]) (by rfl) sc__law_jar.nd rfl rfl (sw_true rfl rfl rfl (by decide +kernel)) (pi_list (pe_slice sl_list (pv 0) po_none (po_some pe_int))) (blkOk_by (N := ["script", "cells", "state", "cell", "great"]) (own := [("cell", 3)]) (sc := defScope s__law_jar) (by decide +kernel)) (fun _ _ _ _ _ => (pg_name (i := 3) sc__law_jar.nd rfl (Or.inl rfl))) (fun _ _ _ _ _ => pts_nil) (fun _ _ _ _ _ => (pe_callTy call_int1 (by rfl) T.f_int (by decide +kernel) (pa_cons (pv 3) pa_nil))))
      (pss_cons (ps_set (i := 2) sc__law_jar.nd rfl (Or.inl rfl) pe_int)
      (pss_cons (ps_for PassesOwn.never rfl (pi_list (pv 1)) (pg_name (i := 3) sc__law_jar.nd rfl (Or.inl rfl)) (pss_one (ps_set (i := 2) sc__law_jar.nd rfl (Or.inl rfl) (pe_op op_mod (pe_callTy call_int1 (by rfl) T.f_int (by decide +kernel) (pa_cons (pe_op op_add (pe_op op_add (pe_op op_mul (pv 2) (pv 2)) (pe_op op_mul (pv 3) pe_int)) pe_int) pa_nil)) pe_int))))
      (pss_cons (ps_setLc (i := 4) (own := [("cell", 3)]) (by rfl) sc__law_jar.nd rfl rfl (sw_true rfl rfl rfl (by decide +kernel)) (pi_list (pv 1)) (blkOk_by (N := ["script", "cells", "state", "cell", "great"]) (own := [("cell", 3)]) (sc := defScope s__law_jar) (by decide +kernel)) (fun _ _ _ _ _ => (pg_name (i := 3) sc__law_jar.nd rfl (Or.inl rfl))) (fun _ _ _ _ _ => (pts_one (pt_cmpR op_ge (pv 3) (pe_op op_pow pe_int pe_int) (nomark _)))) (fun _ _ _ _ _ => (pv 3)))
      (pss_one (ps_ret (pe_lst (pa_cons (pv 4) (pa_cons (pe_op op_cat (pe_lc (own := [("cell", 3)]) (by rfl) sc__law_jar.nd (pi_list (pv 1)) (blkOk_by (N := ["script", "cells", "state", "cell", "great"]) (own := [("cell", 3)]) (sc := defScope s__law_jar) (by decide +kernel)) (fun _ _ _ _ _ => (pg_name (i := 3) sc__law_jar.nd rfl (Or.inl rfl))) (fun _ _ _ _ _ => (pts_one (pt_cmpR op_lt (pv 3) (pe_op op_pow pe_int pe_int) (nomark _)))) (fun _ _ _ _ _ => (pv 3))) (pe_lst (pa_cons (pe_callB call_len_seq (by rfl) T.f_len PySem.boot_len (pa_cons (pv 1) pa_nil)) pa_nil))) (pa_cons pe_int (pa_cons (pv 2) pa_nil))))))))))), ?_⟩
    walk_at "z"
    refine ⟨_, _, rfl, ha, fun p hp => ?_⟩
    refine ⟨p, rfl, ⟨_, SqL.of' upd_same⟩, fun D hD => ?_⟩
    rw [show ((63 : Int)) = 63 from rfl] at *
    refine lc_flat V.int V.int (fun _ => true) ns hD (SqL.of' (by rw [upd_same, cut63 hl])) (by omega) (fun x H1 acc Nx hx s1 h1 l1 k1 k2 => ?_) (fun H1 s1 h1 => ?_)
    · walk_at "z"
      refine .inl ⟨_, rfl, acc, h1, l1, k1 _ rfl (Same.refl _)⟩
    have sH1 : Same H H1 := (Same.new hp).trans s1
    rw [filt_true] at h1
    walk_at "z"
    refine ⟨⟨_, SqL.of' h1⟩, ?_⟩
    refine for_list (K := K) (a := D) (xs := ns.map V.int) (fun i σ H' => ∃ (st : Int) (v : Option V), σ = [some (.ref a), some (.ref D), some (.int st), v, none] ∧ H' = H1 ∧ 0 ≤ st ∧ st < 2305843009213693951) ⟨_, _, rfl, rfl, by decide, by decide⟩ ?_ ?_ ?_
    · rintro i σ H' _ ⟨st, v, rfl, rfl, _⟩
      exact SqL.of' h1
    · rintro i y σ H' hi ⟨st, v, rfl, rfl, s0, s2⟩
      rw [List.getElem?_map] at hi
      obtain ⟨x, hx, rfl⟩ := Option.map_eq_some_iff.mp hi
      walk_at "z"
      refine ⟨.inl ⟨by omega, by omega⟩, ?_⟩
      walk_at "z"
      refine ⟨.inr ⟨by decide, by decide⟩, ?_⟩
      walk_at "z"
      refine .inl ⟨_, rfl, ?_⟩
      walk_at "z"
      refine ⟨by show (0 : Int) < 2305843009213693951; decide, ?_⟩
      exact ⟨_, _, rfl, rfl, Int.emod_nonneg _ (by decide), Int.emod_lt_of_pos _ (by decide)⟩
    · rintro σ H' ⟨st, v, rfl, rfl, s0, s2'⟩
      -- great = [cell for cell in cells if cell >= 10 ** 18]
      walk_at "z"
      refine ⟨⟨_, SqL.of' h1⟩, fun D2 hD2 => ?_⟩
      refine lc_flat V.int V.int (fun c => decide ((10 : Int) ^ 18 ≤ c)) ns hD2 (SqL.of' h1) (by omega) (fun x H2 acc Nx hx s2 h2 l2 k1 k2 => ?_) (fun H2 s2 h2 => ?_)
      · walk_at "z"
        refine ⟨⟨by decide, by decide, by decide⟩, ?_⟩
        walk_at "z"
        refine ifb (fun e => ?_) (fun e => ?_)
        · walk_at "z"
          exact ⟨acc, h2, l2, k1 _ e (Same.refl _)⟩
        · exact k2 _ e (Same.refl _)
      -- return [great, [..] + [len(cells)], 0, state]
      have h12 := s2 _ _ h1
      walk_at "z"
      refine ⟨⟨_, SqL.of' h12⟩, fun D3 hD3 => ?_⟩
      refine lc_flat V.int V.int (fun c => decide (c < (10 : Int) ^ 18)) ns hD3 (SqL.of' h12) (by omega) (fun x H3 acc Nx hx s3 h3 l3 k1 k2 => ?_) (fun H3 s3 h3 => ?_)
      · walk_at "z"
        refine ⟨⟨by decide, by decide, by decide⟩, ?_⟩
        walk_at "z"
        refine ifb (fun e => ?_) (fun e => ?_)
        · walk_at "z"
          exact ⟨acc, h3, l3, k1 _ e (Same.refl _)⟩
        · exact k2 _ e (Same.refl _)
      have h13 := s3 _ _ h12
      have g3 := s3 _ _ h2
      have lf := filt_len (fun c => decide (c < (10 : Int) ^ 18)) hl
      have lg := filt_len (fun c => decide ((10 : Int) ^ 18 ≤ c)) hl
      generalize ns.filter (fun c => decide (c < (10 : Int) ^ 18)) = sm at *
      generalize ns.filter (fun c => decide ((10 : Int) ^ 18 ≤ c)) = gr at *
      walk_at "z"
      refine ⟨_, _, rfl, .inl (SqL.of' h13), ?_⟩
      refine ⟨by show 1 ≤ sizeLine; decide, fun D4 hD4 => ?_⟩
      have h34 := Same.new (o := .lst [V.int ((ns.map V.int).length : Nat)]) hD4 _ _ h3
      refine ⟨_, _, _, _, rfl, rfl, h34, upd_same, by show (sm.map V.int).length + 1 ≤ sizeLine; rw [List.length_map, sizeLine_eq]; omega, fun D5 hD5 => ?_⟩
      walk_at "z"
      refine ⟨by show 4 ≤ sizeLine; decide, fun J hJ => ?_⟩
      have sA := (sH1.trans (s2.trans s3)).trans (Same.new (o := .lst [V.int ((ns.map V.int).length : Nat)]) hD4)
      have sB := sA.trans (Same.new (o := .lst (sm.map V.int ++ [V.int ((ns.map V.int).length : Nat)])) hD5)
      have g4 := Same.new (o := .lst [V.int ((ns.map V.int).length : Nat)]) hD4 _ _ g3
      have g5 := Same.new (o := .lst (sm.map V.int ++ [V.int ((ns.map V.int).length : Nat)])) hD5 _ _ g4
      refine k J D2 D5 _ (sB.trans (Same.new hJ)) (sB.free hJ) (sH1.free hD2) (sA.free hD5) ⟨(ne_of_none g5 hJ).symm, ne_of_none upd_same hJ, (ne_of_none g4 hD5).symm, gr, sm ++ [((ns.map V.int).length : Int)], 0, st, upd_same, ?_, ?_, by simp, by omega, s0, s2'⟩
      · rw [upd_ne (ne_of_none g5 hJ)]
        exact g5
      · rw [upd_ne (ne_of_none upd_same hJ), upd_same, List.map_append]
        rfl
end

/-! ### reading numbers -/
def dig? (c : Nat) : Bool := decide (48 ≤ c) && decide (c ≤ 57)
/-- unsigned, of a text's signs -/
def uns (l : List Nat) : Option Nat := if l.length ≤ 60 ∧ l.all dig? = true ∧ l ≠ [] ∧ ¬ (l.head? = some 48 ∧ 1 < l.length) then some (NumText.digitsVal l) else none
def sgn (l : List Nat) : Option Int := match l with
  | 45 :: r => (match uns r with
    | some (n + 1) => some (-((n + 1 : Nat) : Int))
    | _ => none)
  | l => (uns l).map Int.ofNat
/-- fraction, of a text's signs -/
def frt (l : List Nat) : Option (Int × Int) :=
  if 47 ∈ l then (match sgn (l.takeWhile (· != 47)), uns ((l.dropWhile (· != 47)).drop 1) with
    | some t, some b => if b < 2 ∨ Int.gcd t b ≠ 1 then none else some (t, (b : Int))
    | _, _ => none)
  else (sgn l).map fun t => (t, 1)
def oV : Option Int → V
  | none => .non
  | some n => .int n
theorem isDigit_eq : ∀ c, c < 128 → Unicode.isDigit c = dig? c := by decide +kernel
theorem starts_sign (x : Str) (c : Nat) : Txt.startswith x ⟨#[c]⟩ = decide ((tl x).head? = some c) := by
  obtain ⟨⟨l⟩⟩ := x
  unfold Txt.startswith
  cases l with
  | nil => rfl
  | cons d r =>
    show (decide (0 + 1 ≤ (d :: r).toArray.size) && ((d :: r).toArray.extract 0 (0 + 1) == #[c])) = _
    have e : (d :: r).toArray.extract 0 (0 + 1) = #[d] := by simp
    rw [e]
    show (decide (0 + 1 ≤ (d :: r).length) && _) = decide (some d = some c)
    rw [show decide (0 + 1 ≤ (d :: r).length) = true by simp]
    by_cases h : d = c
    · subst h
      simp
    · simp [h]
theorem ascii_digits {x : Str} (ha : Txt.isascii x = true) : Txt.isdigit x = (decide (tl x ≠ []) && (tl x).all dig?) := by
  obtain ⟨⟨l⟩⟩ := x
  have ha2 : ∀ c ∈ l, c < 128 := by
    unfold Txt.isascii at ha
    simpa using ha
  unfold Txt.isdigit
  show (decide (l.toArray.size > 0) && l.toArray.all Unicode.isDigit) = (decide (l ≠ []) && l.all dig?)
  rw [show l.toArray.all Unicode.isDigit = l.all dig? by
    rw [List.all_toArray]
    rw [Bool.eq_iff_iff, List.all_eq_true, List.all_eq_true]
    exact ⟨fun z c hc => by rw [← isDigit_eq c (ha2 c hc)]; exact z c hc, fun z c hc => by rw [isDigit_eq c (ha2 c hc)]; exact z c hc⟩]
  congr 1
  cases l <;> simp
theorem digits_ascii {l : List Nat} (h : l.all dig? = true) : Txt.isascii ⟨l.toArray⟩ = true := by
  unfold Txt.isascii
  simp only [List.all_eq_true, dig?, Bool.and_eq_true, decide_eq_true_eq] at h
  simp only [List.all_toArray, List.all_eq_true, decide_eq_true_eq]
  intro c hc
  have := h c hc
  omega
theorem uns_some {l : List Nat} (h1 : l.length ≤ 60) (h2 : l.all dig? = true) (h3 : l ≠ []) (h4 : ¬ (l.head? = some 48 ∧ 1 < l.length)) : uns l = some (NumText.digitsVal l) := if_pos ⟨h1, h2, h3, h4⟩
section
variable {P : Program} {w : World} {K : PySem.W.Frag} {mg : Str → Option Value} {base : Heap}
def spUns : Sp := fun vs H Q _ => ∃ (x : Str), vs = [.str x, .int 60] ∧ x.length ≤ 1000000 ∧ Q (oV ((uns (tl x)).map Int.ofNat)) H
theorem sc_unsigned : FnScope ["word", "most"] ["word", "most"] (defScope s_unsigned) := ⟨rfl, rfl, rfl, by decide +kernel, rfl, by decide +kernel, by decide +kernel⟩
theorem ok_unsignedF (T : Tx K mg) : ∃ fd, FunD K d_unsigned.name d_unsigned.qual d_unsigned.params d_unsigned.body d_unsigned.scope (d_unsigned.dvs K) (d_unsigned.kws K) (He.fAd K d_unsigned.at_) fd ∧ FnOk P w K mg base CX0 1 (He.fAd K d_unsigned.at_) fd ["word", "most"] spUns := by
  obtain ⟨fd, F⟩ := T.D_unsigned
  refine ⟨fd, F, FunD.ok F sc_unsigned (fun vs H Q E h => ?_) (fun cdv A outer s H vs Q E hr h => ?_)⟩
  · obtain ⟨x, rfl, _⟩ := h
    rfl
  · obtain ⟨x, rfl, hx, k⟩ := h
    refine ⟨_, PSs.nox (pss_cons (ps_if (PW.pt (pw_or (pt_cmpR op_gt (pe_callB call_len_str (by rfl) T.f_len PySem.boot_len (pa_cons (pv 0) pa_nil)) (pv 1) (nomark _)) (pw_or (pt_not (pt_val (pe_bm0 PySem.F.plainAttrs_str PySem.F.slot_str_isascii PySem.F.type_str_isascii mt_isascii (pv 0)))) (pw_or1 (pt_not (pt_val (pe_bm0 PySem.F.plainAttrs_str PySem.F.slot_str_isdigit PySem.F.type_str_isdigit mt_isdigit (pv 0)))))))) (pss_one (ps_ret pe_non)) pss_nil)
      (pss_cons (ps_if (PW.pt (pw_and (pt_val (pe_bm PySem.F.plainAttrs_str PySem.F.slot_str_startswith PySem.F.type_str_startswith mt_startswith (pv 0) (pa_cons pe_str pa_nil))) (pw_and1 (pt_cmpR op_gt (pe_callB call_len_str (by rfl) T.f_len PySem.boot_len (pa_cons (pv 0) pa_nil)) pe_int (nomark _))))) (pss_one (ps_ret pe_non)) pss_nil)
      (pss_one (ps_ret (pe_callTy call_int_str (by rfl) T.f_int (by decide +kernel) (pa_cons (pv 0) pa_nil)))))), ?_⟩
    have hz : x.length ≤ sizeLine := by rw [sizeLine_eq]; omega
    walk_at "z"
    refine ⟨hz, ?_⟩
    walk_at "z"
    refine ifb (fun e => ?_) (fun e => ?_)
    · have e1 : 60 < x.length := by have := of_decide_eq_true e; omega
      have : uns (tl x) = none := if_neg fun z => by have := z.1; rw [← len_tl] at this; omega
      rw [this] at k
      walk_at "z"
      exact k
    · have e1 : x.length ≤ 60 := by have := of_decide_eq_false e; omega
      walk_at "z"
      refine ⟨trivial, ?_⟩
      walk_at "z"
      cases ha : Txt.isascii x with
      | false =>
        have : uns (tl x) = none := if_neg fun z => by
          have z2 := digits_ascii z.2.1
          rw [mk_tl, ha] at z2
          cases z2
        rw [this] at k
        refine ifT rfl ?_
        walk_at "z"
        exact k
      | true =>
        refine ifF rfl ?_
        walk_at "z"
        refine ⟨trivial, ?_⟩
        walk_at "z"
        rw [ascii_digits ha]
        cases hd : (decide (tl x ≠ []) && (tl x).all dig?) with
        | false =>
          have : uns (tl x) = none := if_neg fun z => by
            rw [z.2.1, Bool.and_true] at hd
            exact of_decide_eq_false hd z.2.2.1
          rw [this] at k
          refine ifT rfl ?_
          walk_at "z"
          exact k
        | true =>
          obtain ⟨d1, d2⟩ := Bool.and_eq_true_iff.mp hd
          have d3 : tl x ≠ [] := of_decide_eq_true d1
          refine ifF rfl ?_
          walk_at "z"
          rw [show (Str.ofString "0") = ⟨#[48]⟩ by decide, starts_sign]
          have fin : ¬ ((tl x).head? = some 48 ∧ 1 < (tl x).length) → ∃ a n, [V.str x] = [V.str a] ∧ intText? a = some n ∧ a.length ≤ 640 ∧ Q (V.int n) H := fun h4 => by
            have da : NumText.AllDigits (tl x) := fun c hc => by
              have z := List.all_eq_true.mp d2 c hc
              obtain ⟨z1, z2⟩ := Bool.and_eq_true_iff.mp z
              exact ⟨of_decide_eq_true z1, of_decide_eq_true z2⟩
            rw [uns_some (by rw [← len_tl]; exact e1) d2 d3 h4] at k
            exact ⟨x, _, rfl, intText_digits da d3 (by omega), by omega, k⟩
          cases h0 : decide ((tl x).head? = some 48) with
          | false =>
            refine ifF rfl ?_
            walk_at "z"
            exact fin fun z => of_decide_eq_false h0 z.1
          | true =>
            refine ifT rfl ?_
            walk_at "z"
            refine ⟨hz, ?_⟩
            walk_at "z"
            refine ifb (fun c => ?_) (fun c => ?_)
            · have c1 : 1 < (tl x).length := by have := of_decide_eq_true c; rw [len_tl] at this; omega
              have : uns (tl x) = none := if_neg fun z => z.2.2.2 ⟨of_decide_eq_true h0, c1⟩
              rw [this] at k
              walk_at "z"
              exact k
            · have c1 : ¬ 1 < (tl x).length := by have := of_decide_eq_false c; rw [len_tl] at this; omega
              walk_at "z"
              exact fin fun z => c1 z.2
theorem ok_unsigned (T : Tx K mg) : Fk P w K mg base CX0 1 (He.fAd K d_unsigned.at_) ["word", "most"] [.int 60] spUns := by
  obtain ⟨fd, F, G⟩ := ok_unsignedF (P := P) (w := w) (base := base) T
  obtain ⟨ds, hv, hb⟩ := FunD.binds1 (ps := ["word", "most"]) F 1 0 (by intro z; cases z) rfl (fun T kV doc pm an cdv ct us its hu hi => match us, hu, its, hi with | [_], _, [_], _ => ⟨_, rfl, rfl⟩)
  exact ⟨fd, ds, G, hb, hv, F.kp⟩
theorem tl_cut1 (x : Str) (n : Nat) : tl (cutS x (some (n : Int)) none) = (tl x).drop n := by
  unfold cutS
  rw [HT.sIx_nat, HT.sIx_none]
  show ((tl x).drop (min n x.length)).take (x.length - min n x.length) = _
  rw [len_tl]
  by_cases h : n ≤ (tl x).length
  · rw [Nat.min_eq_left h]
    exact List.take_of_length_le (by rw [List.length_drop]; omega)
  · rw [Nat.min_eq_right (by omega), List.drop_eq_nil_of_le (Nat.le_refl _), List.drop_eq_nil_of_le (by omega), List.take_nil]
def spSgn : Sp := fun vs H Q _ => ∃ (x : Str), vs = [.str x] ∧ x.length ≤ 1000000 ∧ Q (oV (sgn (tl x))) H
theorem cut_len (x : Str) (n : Nat) (h : x.length ≤ 1000000) : (cutS x (some (n : Int)) none).length ≤ 1000000 := by
  rw [len_tl, tl_cut1, List.length_drop]
  rw [len_tl] at h
  omega
theorem sc_signed : FnScope ["word", "size"] ["word"] (defScope s_signed) := ⟨rfl, rfl, rfl, by decide +kernel, rfl, by decide +kernel, by decide +kernel⟩
theorem ok_signed (T : Tx K mg) : Fk P w K mg base CX0 2 (He.fAd K d_signed.at_) ["word"] [] spSgn := by
  obtain ⟨fd, F⟩ := T.D_signed
  refine ⟨fd, [], FunD.ok F sc_signed (fun vs H Q E h => ?_) (fun cdv A outer s H vs Q E hr h => ?_), F.bindsN (fun _ _ _ _ _ _ us hl => match us, hl with | [_], _ => rfl), .nil, F.kp⟩
  · obtain ⟨x, rfl, _⟩ := h
    rfl
  · obtain ⟨x, rfl, hx, k⟩ := h
    refine ⟨_, PSs.nox (pss_cons (ps_if (pt_not (pt_val (pe_bm PySem.F.plainAttrs_str PySem.F.slot_str_startswith PySem.F.type_str_startswith mt_startswith (pv 0) (pa_cons pe_str pa_nil)))) (pss_one (ps_ret (qcall ((ok_unsigned T).mono (by decide)) hr T.g_unsigned pass0 (pa_cons (pv 0) pa_nil)))) pss_nil)
      (pss_cons (ps_set (i := 1) sc_signed.nd rfl (Or.inl rfl) (qcall ((ok_unsigned T).mono (by decide)) hr T.g_unsigned pass0 (pa_cons (pe_slice sl_str (pv 0) (po_some pe_int) po_none) pa_nil)))
      (pss_cons (ps_if (PW.pt (pw_or (pt_cmpR op_isN (pv 1) pe_non (nomark _)) (pw_or1 (pt_cmpR op_eq (pv 1) pe_int (nomark _))))) (pss_one (ps_ret pe_non)) pss_nil)
      (pss_one (ps_ret (pe_un un_neg (pv 1))))))), ?_⟩
    have hz : x.length ≤ sizeLine := by rw [sizeLine_eq]; omega
    walk_at "z"
    rw [show (Str.ofString "-") = ⟨#[45]⟩ by decide, starts_sign]
    cases h0 : decide ((tl x).head? = some 45) with
    | false =>
      refine ifT rfl ?_
      walk_at "z"
      refine ⟨hx, ?_⟩
      have : sgn (tl x) = (uns (tl x)).map Int.ofNat := by
        unfold sgn
        split
        · rename_i r e
          rw [e] at h0
          exact absurd rfl (of_decide_eq_false h0)
        · rfl
      rw [this] at k
      exact k
    | true =>
      obtain ⟨r, hr⟩ : ∃ r, tl x = 45 :: r := by
        have z := of_decide_eq_true h0
        cases e : tl x with
        | nil => rw [e] at z; cases z
        | cons a r =>
          rw [e] at z
          have : a = 45 := Option.some.inj z
          subst this
          exact ⟨r, rfl⟩
      have hs : tl (cutS x (some ((1 : Nat) : Int)) none) = r := by rw [tl_cut1, hr]; rfl
      have ks : sgn (tl x) = (match uns r with
        | some (n + 1) => some (-((n + 1 : Nat) : Int))
        | _ => none) := by rw [hr]; rfl
      refine ifF rfl ?_
      walk_at "z"
      refine ⟨hz, ?_⟩
      refine ⟨_, rfl, cut_len x 1 hx, ?_⟩
      rw [show ((1 : Int)) = ((1 : Nat) : Int) from rfl, hs]
      cases hu : uns r with
      | none =>
        rw [hu] at ks
        rw [ks] at k
        walk_at "z"
        exact k
      | some n =>
        walk_at "z"
        cases n with
        | zero =>
          rw [hu] at ks
          rw [ks] at k
          refine ifT rfl ?_
          walk_at "z"
          exact k
        | succ n =>
          rw [hu] at ks
          rw [ks] at k
          refine ifF (decide_eq_false fun z => by injection z with z; exact absurd z (by simp; omega)) ?_
          walk_at "z"
          exact k
def oF : Option (Int × Int) → Hp → V → Prop
  | none, _, v => v = .non
  | some x, H, v => ∃ a, v = .ref a ∧ H a = some (.tup [.int x.1, .int x.2])
def spFrt : Sp := fun vs H Q _ => ∃ (x : Str), vs = [.str x] ∧ x.length ≤ 1000000 ∧ ∀ v H', Same H H' → oF (frt (tl x)) H' v → Q v H'
theorem cut47 : ∀ l : List Nat, 47 ∈ l → ∃ a b, l = a ++ 47 :: b ∧ 47 ∉ a ∧ a = l.takeWhile (· != 47) ∧ b = (l.dropWhile (· != 47)).drop 1
  | [], h => by cases h
  | c :: r, h => by
    by_cases e : c = 47
    · subst e
      exact ⟨[], r, rfl, by simp, by simp, by simp⟩
    · have hr : 47 ∈ r := by
        rcases List.mem_cons.mp h with z | z
        · exact absurd z.symm e
        · exact z
      obtain ⟨a, b, h1, h2, h3, h4⟩ := cut47 r hr
      have hb : (c != 47) = true := by simp [e]
      refine ⟨c :: a, b, by rw [h1]; rfl, ?_, ?_, ?_⟩
      · intro z
        rcases List.mem_cons.mp z with z | z
        · exact e z.symm
        · exact h2 z
      · rw [List.takeWhile_cons, if_pos hb, ← h3]
      · rw [List.dropWhile_cons, if_pos hb, ← h4]
theorem sc_fraction : FnScope ["word", "top", "head", "_", "tail", "bottom"] ["word"] (defScope s_fraction) := ⟨rfl, rfl, rfl, by decide +kernel, rfl, by decide +kernel, by decide +kernel⟩
theorem ok_fraction (T : Tx K mg) : Fk P w K mg base CX0 3 (He.fAd K d_fraction.at_) ["word"] [] spFrt := by
  obtain ⟨fd, F⟩ := T.D_fraction
  refine ⟨fd, [], FunD.ok F sc_fraction (fun vs H Q E h => ?_) (fun cdv A outer s H vs Q E hr h => ?_), F.bindsN (fun _ _ _ _ _ _ us hl => match us, hl with | [_], _ => rfl), .nil, F.kp⟩
  · obtain ⟨x, rfl, _⟩ := h
    rfl
  · obtain ⟨x, rfl, hx, k⟩ := h
    refine ⟨_, PSs.nox (pss_cons (ps_if (pt_cmpR op_notIn_sign pe_str (pv 0) (by rfl)) (pss_cons (ps_set (i := 1) sc_fraction.nd rfl (Or.inl rfl) (qcall ((ok_signed T).mono (by decide)) hr T.g_signed pass0 (pa_cons (pv 0) pa_nil)))
      (pss_one (ps_ret (pe_ifExp (pt_cmpR op_isN (pv 1) pe_non (nomark _)) pe_non (pe_tup (pa_cons (pv 1) (pa_cons pe_int pa_nil))))))) pss_nil)
      (pss_cons (ps_asg (pe_bm PySem.F.plainAttrs_str PySem.F.slot_str_partition PySem.F.type_str_partition mt_partition (pv 0) (pa_cons pe_str pa_nil)) (pg_tupK (K := K) (n := 3) rfl (by rfl) (pgs_cons (pg_name (i := 2) sc_fraction.nd rfl (Or.inl rfl)) (pgs_cons (pg_name (i := 3) sc_fraction.nd rfl (Or.inl rfl)) (pgs_cons (pg_name (i := 4) sc_fraction.nd rfl (Or.inl rfl)) pgs_nil)))))
      (pss_cons (ps_par (i := 1) (j := 5) (by rfl) sc_fraction.nd rfl rfl (by decide) rfl rfl (pa_cons (qcall ((ok_signed T).mono (by decide)) hr T.g_signed pass0 (pa_cons (pv 2) pa_nil)) (pa_cons (qcall ((ok_unsigned T).mono (by decide)) hr T.g_unsigned pass0 (pa_cons (pv 4) pa_nil)) pa_nil)) (by rfl))
      (pss_cons (ps_if (PW.pt (pw_or (pt_cmpR op_isN (pv 1) pe_non (nomark _)) (pw_or (pt_cmpR op_isN (pv 5) pe_non (nomark _)) (pw_or (pt_cmpR op_lt (pv 5) pe_int (nomark _)) (pw_or1 (pt_cmpR op_ne (pe_callBfun cr_gcd rfl T.g_gcd (pa_cons (pv 1) (pa_cons (pv 5) pa_nil))) pe_int (nomark _))))))) (pss_one (ps_ret pe_non)) pss_nil)
      (pss_one (ps_ret (pe_tup (pa_cons (pv 1) (pa_cons (pv 5) pa_nil))))))))), ?_⟩
    have hz : x.length ≤ sizeLine := by rw [sizeLine_eq]; omega
    walk_at "z"
    refine ifb (fun e => ?_) (fun e => ?_)
    · have h47 : 47 ∉ tl x := by simpa using e
      have ef : frt (tl x) = (sgn (tl x)).map fun t => (t, 1) := if_neg h47
      rw [ef] at k
      walk_at "z"
      refine ⟨hx, ?_⟩
      cases hs : sgn (tl x) with
      | none =>
        rw [hs] at k
        walk_at "z"
        exact k _ _ (Same.refl _) rfl
      | some t =>
        rw [hs] at k
        walk_at "z"
        exact ⟨by show 2 ≤ sizeLine; decide, fun p hp => k _ _ (Same.new hp) ⟨p, rfl, upd_same⟩⟩
    · have h47 : 47 ∈ tl x := by simpa using e
      obtain ⟨a, b, h1, h2, h3, h4⟩ := cut47 (tl x) h47
      have ex : x = (⟨a.toArray⟩ : Str) ++ (⟨#[47]⟩ : Str) ++ (⟨b.toArray⟩ : Str) := by
        refine ext_tl ?_
        rw [tl_append, tl_append, h1]
        show a ++ 47 :: b = a ++ [47] ++ b
        simp
      have ep : Txt.partition x ⟨#[47]⟩ = ((⟨a.toArray⟩ : Str), (⟨#[47]⟩ : Str), (⟨b.toArray⟩ : Str)) := by
        rw [ex]
        exact partition_app (s := 47) (S := []) rfl h2
      have ef : frt (tl x) = (match sgn a, uns b with
        | some t, some c => if c < 2 ∨ Int.gcd t c ≠ 1 then none else some (t, (c : Int))
        | _, _ => none) := by
        unfold frt
        rw [if_pos h47, ← h3, ← h4]
      rw [ef] at k
      have la : a.length ≤ 1000000 := by
        have : (tl x).length = a.length + (b.length + 1) := by rw [h1, List.length_append, List.length_cons]
        rw [len_tl] at hx
        omega
      have lb : b.length ≤ 1000000 := by
        have : (tl x).length = a.length + (b.length + 1) := by rw [h1, List.length_append, List.length_cons]
        rw [len_tl] at hx
        omega
      walk_at "z"
      refine ⟨hz, fun p hp => ?_⟩
      rw [show (Str.ofString "/") = ⟨#[47]⟩ by decide, ep]
      refine ⟨p, _, rfl, SqT.of' upd_same, rfl, ?_⟩
      have s1 := Same.new (o := .tup [V.str ⟨a.toArray⟩, V.str ⟨#[47]⟩, V.str ⟨b.toArray⟩]) hp
      generalize upd H p _ = H1 at *
      walk_at "z"
      refine ⟨la, ?_⟩
      walk_at "z"
      refine ⟨lb, ?_⟩
      rw [show tl (⟨a.toArray⟩ : Str) = a from rfl, show tl (⟨b.toArray⟩ : Str) = b from rfl]
      cases hs : sgn a with
      | none =>
        rw [hs] at k
        walk_at "z"
        exact k _ _ s1 rfl
      | some t =>
        cases hu : uns b with
        | none =>
          rw [hs, hu] at k
          walk_at "z"
          exact k _ _ s1 rfl
        | some c =>
          rw [hs, hu] at k
          walk_at "z"
          refine ifb (fun e => ?_) (fun e => ?_)
          · have c2 : c < 2 := by have z : (c : Int) < 2 := of_decide_eq_true e; omega
            have k' : ∀ v H', Same H H' → oF none H' v → Q v H' := by
              have z : (if c < 2 ∨ Int.gcd t c ≠ 1 then none else some (t, (c : Int))) = none := if_pos (.inl c2)
              rw [← z]
              exact k
            walk_at "z"
            exact k' _ _ s1 rfl
          · have c2 : ¬ c < 2 := by have z : ¬ (c : Int) < 2 := of_decide_eq_false e; omega
            walk_at "z"
            have hg : (decide (V.int ((Nat.gcd t.natAbs (Int.ofNat c).natAbs : Nat) : Int) = V.int 1)) = decide (Int.gcd t c = 1) := by
              rw [decide_eq_decide]
              constructor
              · intro z
                injection z with z
                exact Int.ofNat.inj z
              · intro z
                have z2 : Nat.gcd t.natAbs (Int.ofNat c).natAbs = 1 := z
                rw [z2]
                rfl
            by_cases g : Int.gcd t c = 1
            · have k' : ∀ v H', Same H H' → oF (some (t, (c : Int))) H' v → Q v H' := by
                have z : (if c < 2 ∨ Int.gcd t c ≠ 1 then none else some (t, (c : Int))) = some (t, (c : Int)) := if_neg (fun z => z.elim c2 fun z => z g)
                rw [← z]
                exact k
              refine ifF (by rw [hg, decide_eq_true g]; rfl) ?_
              walk_at "z"
              exact ⟨by show 2 ≤ sizeLine; decide, fun q hq => k' _ _ (s1.trans (Same.new hq)) ⟨q, rfl, upd_same⟩⟩
            · have k' : ∀ v H', Same H H' → oF none H' v → Q v H' := by
                have z : (if c < 2 ∨ Int.gcd t c ≠ 1 then none else some (t, (c : Int))) = none := if_pos (.inr g)
                rw [← z]
                exact k
              refine ifT (by rw [hg, decide_eq_false g]; rfl) ?_
              walk_at "z"
              exact k' _ _ s1 rfl
end

section
variable {P : Program} {w : World} {K : PySem.W.Frag} {mg : Str → Option Value} {base : Heap}
/-! ### primes -/
def spOdd : Sp := fun vs H Q _ => ∃ (m : Nat), vs = [.int m] ∧ Prime m ∧ 3 ≤ m ∧ m ≤ 10007 ∧ Q (.bl true) H
theorem prime_rest {m : Nat} {d : Int} (hp : Prime m) (h0 : 2 ≤ d) (h1 : d < m) : (m : Int) % d ≠ 0 := by
  obtain ⟨k, rfl⟩ := Int.eq_ofNat_of_zero_le (show 0 ≤ d by omega)
  have := hp.2 k (by omega) (by omega)
  omega
theorem sc_is_odd_prime : FnScope ["number", "divisor"] ["number"] (defScope s_is_odd_prime) := ⟨rfl, rfl, rfl, by decide +kernel, rfl, by decide +kernel, by decide +kernel⟩
theorem ok_is_odd_prime (T : Tx K mg) : Fk P w K mg base CX0 1 (He.fAd K d_is_odd_prime.at_) ["number"] [] spOdd := by
  obtain ⟨fd, F⟩ := T.D_is_odd_prime
  refine ⟨fd, [], FunD.ok F sc_is_odd_prime (fun vs H Q E h => ?_) (fun cdv A outer s H vs Q E hr h => ?_), F.bindsN (fun _ _ _ _ _ _ us hl => match us, hl with | [_], _ => rfl), .nil, F.kp⟩
  · obtain ⟨m, rfl, _⟩ := h
    rfl
  · obtain ⟨m, rfl, pm, h3, h4, k⟩ := h
    refine ⟨_, PSs.nox (pss_cons (ps_if (PW.pt (pw_or (pt_cmpR op_lt (pv 0) pe_int (nomark _)) (pw_or1 (pt_cmpR op_eq (pe_op op_mod (pv 0) pe_int) pe_int (nomark _))))) (pss_one (ps_ret pe_bl)) pss_nil)
      (pss_cons (ps_set (i := 1) sc_is_odd_prime.nd rfl (Or.inl rfl) pe_int)
      (pss_cons (ps_while PassesOwn.never (pt_cmpR op_le (pe_op op_mul (pv 1) (pv 1)) (pv 0) (nomark _)) (pss_cons (ps_if (pt_cmpR op_eq (pe_op op_mod (pv 0) (pv 1)) pe_int (nomark _)) (pss_one (ps_ret pe_bl)) pss_nil)
      (pss_one (ps_aug (i := 1) sc_is_odd_prime.nd rfl (Or.inl rfl) pe_int ip_add))))
      (pss_one (ps_ret pe_bl))))), ?_⟩
    have h2 := prime_rest (d := 2) pm (by decide) (by omega)
    walk_at "z"
    refine ifF (decide_eq_false (by omega)) ?_
    walk_at "z"
    refine ⟨by show (0 : Int) < 2; decide, ?_⟩
    walk_at "z"
    refine ifF (decide_eq_false fun z => by injection z with z; exact h2 z) ?_
    walk_at "z"
    refine ⟨fun i σ H1 => ∃ d : Int, σ = [some (.int m), some (.int d)] ∧ H1 = H ∧ 3 ≤ d ∧ d ≤ 200 ∧ i = (200 - d).toNat, ⟨_, 3, rfl, rfl, by decide, by decide, rfl⟩, ?_⟩
    rintro i σ H1 ⟨d, rfl, rfl, d0, d1, rfl⟩
    walk_at "z"
    refine ⟨.inl ⟨by omega, by omega⟩, ?_⟩
    walk_at "z"
    refine ifb (fun e => ?_) (fun e => ?_)
    · have e1 : d * d ≤ m := of_decide_eq_true e
      have e2 : d ≤ 101 := Int.not_lt.mp fun z => by
        have : 102 * 102 ≤ d * d := Int.mul_le_mul (by omega) (by omega) (by decide) (by omega)
        omega
      have e3 : d < m := by
        have : 3 * d ≤ d * d := Int.mul_le_mul_of_nonneg_right d0 (by omega)
        omega
      have hd := prime_rest (d := d) pm (by omega) e3
      refine ⟨fun σ' H' => ∃ d' : Int, σ' = [some (.int m), some (.int d')] ∧ H' = H1 ∧ d' = d + 2, ?_, ?_⟩
      · rintro σ' H' ⟨d', rfl, rfl, rfl⟩
        exact ⟨_, by omega, d + 2, rfl, rfl, by omega, by omega, rfl⟩
      · walk_at "z"
        refine ⟨by show 0 < d; omega, ?_⟩
        walk_at "z"
        refine ifF (decide_eq_false fun z => by injection z with z; exact hd z) ?_
        walk_at "z"
        rfl
    · walk_at "z"
      exact k
/-! ### the inverse -/
def spInvM : Sp := fun vs H Q _ => ∃ (n : Int) (p : Nat), vs = [.int n, .int p] ∧ Prime p ∧ 3 ≤ p ∧ p ≤ 10007 ∧ n % p ≠ 0 ∧ ∀ (r : Int) H', Same H H' → 0 ≤ r → r < p → (r * n) % p = 1 → Q (.int r) H'
theorem gcd_one {n : Int} {p : Nat} (pm : Prime p) (h : n % p ≠ 0) : Int.gcd p (n % p) = 1 := by
  have hp := pm.1
  have h0 := Int.emod_nonneg n (show (p : Int) ≠ 0 by omega)
  obtain ⟨a, ha⟩ := Int.eq_ofNat_of_zero_le h0
  have h1 := Int.emod_lt_of_pos n (show (0 : Int) < p by omega)
  rw [ha]
  refine prime_cop pm (a := a) fun d => ?_
  have := Nat.le_of_dvd (by omega) d
  omega
theorem sc_inverse_modulo : FnScope ["number", "modulus", "high", "low", "above", "below", "many"] ["number", "modulus"] (defScope s_inverse_modulo) := ⟨rfl, rfl, rfl, by decide +kernel, rfl, by decide +kernel, by decide +kernel⟩
theorem ok_inverse_modulo (T : Tx K mg) : Fk P w K mg base CX0 1 (He.fAd K d_inverse_modulo.at_) ["number", "modulus"] [] spInvM := by
  obtain ⟨fd, F⟩ := T.D_inverse_modulo
  refine ⟨fd, [], FunD.ok F sc_inverse_modulo (fun vs H Q E h => ?_) (fun cdv A outer s H vs Q E hr h => ?_), F.bindsN (fun _ _ _ _ _ _ us hl => match us, hl with | [_, _], _ => rfl), .nil, F.kp⟩
  · obtain ⟨n, p, rfl, _⟩ := h
    rfl
  · obtain ⟨n, p, rfl, pm, h3, h4, hn, k⟩ := h
    refine ⟨_, PSs.nox (pss_cons (ps_par (i := 2) (j := 3) (by rfl) sc_inverse_modulo.nd rfl rfl (by decide) rfl rfl (pa_cons (pv 1) (pa_cons (pe_op op_mod (pv 0) (pv 1)) pa_nil)) (by rfl))
      (pss_cons (ps_asg (pe_tup (pa_cons pe_int (pa_cons pe_int pa_nil))) (pg_tupK (K := K) (n := 2) rfl (by rfl) (pgs_cons (pg_name (i := 4) sc_inverse_modulo.nd rfl (Or.inl rfl)) (pgs_cons (pg_name (i := 5) sc_inverse_modulo.nd rfl (Or.inl rfl)) pgs_nil))))
      (pss_cons (ps_while PassesOwn.never (pt_cmpR op_gt (pv 3) pe_int (nomark _)) (pss_cons (ps_set (i := 6) sc_inverse_modulo.nd rfl (Or.inl rfl) (pe_op op_fdivW (pv 2) (pv 3)))
      (pss_cons (ps_par (i := 2) (j := 3) (by rfl) sc_inverse_modulo.nd rfl rfl (by decide) rfl rfl (pa_cons (pv 3) (pa_cons (pe_op op_sub (pv 2) (pe_op op_mul (pv 6) (pv 3))) pa_nil)) (by rfl))
      (pss_one (ps_par (i := 4) (j := 5) (by rfl) sc_inverse_modulo.nd rfl rfl (by decide) rfl rfl (pa_cons (pv 5) (pa_cons (pe_op op_sub (pv 4) (pe_op op_mul (pv 6) (pv 5))) pa_nil)) (by rfl))))))
      (pss_one (ps_ret (pe_op op_mod (pv 4) (pv 1))))))), ?_⟩
    walk_at "z"
    refine ⟨by show (0 : Int) < p; omega, ?_⟩
    walk_at "z"
    refine ⟨by show 2 ≤ sizeLine; decide, fun q hq => ⟨q, _, rfl, SqT.of' upd_same, rfl, ?_⟩⟩
    have s1 := Same.new (o := .tup [V.int 0, V.int 1]) hq
    generalize upd H q _ = H0 at *
    walk_at "z"
    refine ⟨fun i σ H1 => ∃ (h l x y : Int) (v : Option V), σ = [some (.int n), some (.int p), some (.int h), some (.int l), some (.int x), some (.int y), v] ∧ H1 = H0 ∧ EI n p h l x y ∧ i = l.toNat, ⟨_, p, n % p, 0, 1, none, rfl, rfl, ei_start (by omega) (gcd_one pm hn), rfl⟩, ?_⟩
    rintro i σ H1 ⟨h, l, x, y, v, rfl, rfl, e, rfl⟩
    walk_at "z"
    refine ifb (fun c => ?_) (fun c => ?_)
    · have c1 : 0 < l := of_decide_eq_true c
      have t := ei_turn e c1
      have lh := e.lh
      have hp := e.hp
      have q0 : 0 ≤ h / l := Int.ediv_nonneg (by omega) (by omega)
      have q1 : h / l ≤ h := Int.ediv_le_self l (by omega)
      refine ⟨fun σ' H' => σ' = [some (.int n), some (.int p), some (.int l), some (.int (h - h / l * l)), some (.int y), some (.int (x - h / l * y)), some (.int (h / l))] ∧ H' = H1, ?_, ?_⟩
      · rintro σ' H' ⟨rfl, rfl⟩
        refine ⟨_, ?_, l, h - h / l * l, y, x - h / l * y, _, rfl, rfl, t, rfl⟩
        have := t.lh
        have := t.l0
        omega
      · walk_at "z"
        refine ⟨div_ok c1 (by omega), ?_⟩
        walk_at "z"
        refine ⟨.inl ⟨by show -(2 ^ 64) < h / l; omega, by show h / l < 2 ^ 64; omega⟩, ?_⟩
        walk_at "z"
        refine ⟨.inl ⟨by show -(2 ^ 64) < h / l; omega, by show h / l < 2 ^ 64; omega⟩, ?_⟩
        walk_at "z"
        rfl
    · have c1 : ¬ 0 < l := of_decide_eq_false c
      walk_at "z"
      refine ⟨by show (0 : Int) < p; omega, ?_⟩
      exact k _ _ s1 (Int.emod_nonneg _ (by omega)) (Int.emod_lt_of_pos _ (by omega)) (ei_end e c1 (by omega))
/-! ### a ground's line -/
theorem numL_head : ∀ n : Nat, 0 < n → (numL n).head? ≠ some 48 := by
  intro n
  induction n using Nat.strongRecOn with
  | _ n ih =>
    intro h0
    by_cases h : n < 10
    · rw [numL_lt h]
      intro z
      have : 48 + n = 48 := Option.some.inj z
      omega
    · rw [numL_step (by omega)]
      have h1 := ih (n / 10) (by omega) (by omega)
      cases e : numL (n / 10) with
      | nil => exact absurd e (numL_ne _)
      | cons a r =>
        rw [e] at h1
        exact h1
theorem numL_all (n : Nat) : (numL n).all dig? = true := List.all_eq_true.mpr fun c hc => by
  have := numL_digits n c hc
  unfold dig?
  rw [decide_eq_true this.1, decide_eq_true this.2]
  rfl
theorem uns_num {n : Nat} (h : dl n ≤ 60) : uns (numL n) = some n := by
  have e := uns_some (l := numL n) h (numL_all n) (numL_ne n) (fun z => by
    by_cases h0 : 0 < n
    · exact numL_head n h0 z.1
    · have : n = 0 := by omega
      subst this
      exact absurd z.2 (by decide))
  rw [numL_val] at e
  exact e
theorem uns_long {n : Nat} (h : 60 < dl n) : uns (numL n) = none := if_neg fun z => by
  have := z.1
  unfold dl at h
  omega
theorem dl_le {n k : Nat} (hk : 0 < k) (h : n < 10 ^ k) : dl n ≤ k := numL_len hk h
theorem starts_app (a b : Str) : Txt.startswith (a ++ b) a = true := by
  obtain ⟨⟨a⟩⟩ := a
  obtain ⟨⟨b⟩⟩ := b
  show (decide (0 + a.length ≤ (a.toArray ++ b.toArray).size) && ((a.toArray ++ b.toArray).extract 0 (0 + a.length) == a.toArray)) = true
  simp
theorem line_ne {p : Int} : ¬ (lineOf (some p) = Str.ofString "fractions") := fun z => by
  have e := congrArg tl z
  have h : tl (lineOf (some p)) = tl (Str.ofString "rests ") ++ tl (sInt p) := tl_append _ _
  rw [h] at e
  have h2 := congrArg List.head? e
  have h3 : (tl (Str.ofString "rests ") ++ tl (sInt p)).head? = some 114 := rfl
  have h4 : (tl (Str.ofString "fractions")).head? = some 102 := rfl
  rw [h3, h4] at h2
  cases h2
theorem line_cut {n : Nat} : tl (cutS (lineOf (some (n : Int))) (some ((6 : Nat) : Int)) none) = numL n := by
  rw [tl_cut1]
  have h : tl (lineOf (some (n : Int))) = tl (Str.ofString "rests ") ++ tl (sInt n) := tl_append _ _
  rw [h, tl_sInt_nn (by omega), Int.natAbs_natCast]
  rfl
theorem line_len {p : Option Int} (hp : GdOk p) : (lineOf p).length ≤ 101 := by
  cases p with
  | none => decide
  | some p =>
    have h3 := gd_pos hp
    have := sInt_len (small_sz (a := p) (by omega) h3.2)
    have h : tl (lineOf (some p)) = tl (Str.ofString "rests ") ++ tl (sInt p) := tl_append _ _
    rw [len_tl, h, List.length_append, ← len_tl, ← len_tl]
    show 6 + (sInt p).length ≤ 101
    omega
def spPol : Sp := fun vs H Q _ => ∃ (p : Option Int), vs = [.str (lineOf p)] ∧ GdOk p ∧ Q (pV p) H
theorem sc_prime_of_line : FnScope ["line", "prime"] ["line"] (defScope s_prime_of_line) := ⟨rfl, rfl, rfl, by decide +kernel, rfl, by decide +kernel, by decide +kernel⟩
theorem ok_prime_of_line (T : Tx K mg) : Fk P w K mg base CX0 2 (He.fAd K d_prime_of_line.at_) ["line"] [] spPol := by
  obtain ⟨fd, F⟩ := T.D_prime_of_line
  refine ⟨fd, [], FunD.ok F sc_prime_of_line (fun vs H Q E h => ?_) (fun cdv A outer s H vs Q E hr h => ?_), F.bindsN (fun _ _ _ _ _ _ us hl => match us, hl with | [_], _ => rfl), .nil, F.kp⟩
  · obtain ⟨p, rfl, _⟩ := h
    rfl
  · obtain ⟨p, rfl, hp, k⟩ := h
    refine ⟨_, PSs.nox (pss_cons (ps_if (pt_cmpR op_eq (pv 0) pe_str (nomark _)) (pss_one (ps_ret pe_non)) pss_nil)
      (pss_cons (ps_if (pt_not (pt_val (pe_bm PySem.F.plainAttrs_str PySem.F.slot_str_startswith PySem.F.type_str_startswith mt_startswith (pv 0) (pa_cons pe_str pa_nil)))) (pss_one ps_never) pss_nil)
      (pss_cons (ps_set (i := 1) sc_prime_of_line.nd rfl (Or.inl rfl) (qcall ((ok_unsigned T).mono (by decide)) hr T.g_unsigned pass0 (pa_cons (pe_slice sl_str (pv 0) (po_some pe_int) po_none) pa_nil)))
      (pss_cons (ps_if (PW.pt (pw_or (pt_cmpR op_isN (pv 1) pe_non (nomark _)) (pw_or (pt_cmpR op_gt (pv 1) (pe_glob (v := .int 10007) rfl (Classical.choose_spec T.g_GREATEST_PRIME) ⟨_, rfl⟩) (nomark _)) (pw_or1 (pt_not (pt_val (qcall ((ok_is_odd_prime T).mono (by decide)) hr T.g_is_odd_prime pass0 (pa_cons (pv 1) pa_nil)))))))) (pss_one ps_never) pss_nil)
      (pss_one (ps_ret (pv 1))))))), ?_⟩
    have hl := line_len hp
    cases p with
    | none =>
      walk_at "z"
      refine ifT rfl ?_
      walk_at "z"
      exact k
    | some p =>
      obtain ⟨n, rfl, pn, h3, h4⟩ := hp
      have hd : dl n ≤ 60 := Nat.le_trans (dl_le (k := 5) (by decide) (by omega)) (by decide)
      walk_at "z"
      refine ifF (decide_eq_false fun z => by injection z with z; exact line_ne z) ?_
      walk_at "z"
      refine ifF (by rw [show lineOf (some (n : Int)) = Str.ofString "rests " ++ sInt n from rfl, starts_app]; rfl) ?_
      walk_at "z"
      refine ⟨by rw [sizeLine_eq]; omega, ?_⟩
      refine ⟨_, rfl, cut_len _ 6 (by omega), ?_⟩
      rw [show ((6 : Int)) = ((6 : Nat) : Int) from rfl, line_cut, uns_num hd]
      walk_at "z"
      refine ifF (decide_eq_false (by show ¬ (10007 : Int) < Int.ofNat n; have : Int.ofNat n = (n : Int) := rfl; omega)) ?_
      walk_at "z"
      refine ⟨pn, h3, h4, ?_⟩
      walk_at "z"
      exact k
end

/-! ### BadNumber, Ground.number -/
/-- the fields of a BadNumber -/
def xfs (n : Int) (z : Str) : List (Str × V) := [("why", .str z), ("at", .int n), ("code", .str "BadNumber")]
structure GroundAt (K : PySem.W.Frag) (H : Hp) (g : Addr) (p : Option Int) : Prop where
  ex : ∃ dx, H g = some (.ins (He.ga K "Ground") dx [("line", .str (lineOf p)), ("prime", pV p)])
theorem GroundAt.fix {K : PySem.W.Frag} {M : List Addr} {H H' : Hp} {g : Addr} {p : Option Int} (h : GroundAt K H g p) (f : Fix M H H') : GroundAt K H' g p := by
  obtain ⟨dx, h⟩ := h
  exact ⟨dx, f.ins h⟩
theorem GroundAt.ex' {K : PySem.W.Frag} {H H' : Hp} {g : Addr} {p : Option Int} (h : GroundAt K H g p) (e : Same H H') : GroundAt K H' g p := h.fix (M := []) (Fix.of e)
def bad : Option Int → Int → Prop
  | none, b => b = 0
  | some p, b => b % p = 0
def nnum : Option Int → Int → Int → Nm
  | none, a, b => nfr (frac a b)
  | some p, a, b => .r (a * pinv p (b % p) % p)
/-- a way out: a BadNumber at d, whose own dict is new -/
def Out (K : PySem.W.Frag) (n : Int) (H : Hp) (E : XK) : Prop := ∀ d H' z, Same H H' → H d = none → z ≠ Str.empty → H' d = some (.xd (xfs n z)) → E (.ref (He.ga K "BadNumber")) (some d) H'
section
variable {P : Program} {w : World} {K : PySem.W.Frag} {mg : Str → Option Value} {base : Heap}
def spBN (K : PySem.W.Frag) : Sp := fun vs H Q _ => ∃ (a : Addr) (n : Int) (z : Str), vs = [.ref a, .int n, .str z] ∧ H a = some (exo a (He.ga K "BadNumber") none) ∧
  ∀ d H', H d = none → d ≠ a → H' a = some (exo a (He.ga K "BadNumber") (some d)) → H' d = some (exd d (xfs n z)) → (∀ b, b ≠ a → b ≠ d → H' b = H b) → Q .non H'
theorem sc_BadNumber_init : FnScope ["self", "at", "why"] ["self", "at", "why"] (defScope s_BadNumber_init) := ⟨rfl, rfl, rfl, by decide +kernel, rfl, by decide +kernel, by decide +kernel⟩
theorem ok_BadNumber_init (T : Tx K mg) : Fk P w K mg base CX0 1 (He.fAd K d_BadNumber_init.at_) ["self", "at", "why"] [] (spBN K) := by
  obtain ⟨fd, F⟩ := T.D_BadNumber_init
  refine ⟨fd, [], FunD.ok F sc_BadNumber_init (fun vs H Q E h => ?_) (fun cdv A outer s H vs Q E hr h => ?_), F.bindsN (fun _ _ _ _ _ _ us hl => match us, hl with | [_, _, _], _ => rfl), .nil, F.kp⟩
  · obtain ⟨a, n, z, rfl, _⟩ := h
    rfl
  · obtain ⟨a, n, z, rfl, ha, k⟩ := h
    refine ⟨_, PSs.nox (pss_cons (ps_ost (pv 0) pe_str)
      (pss_cons (ps_ost (pv 0) (pv 1))
      (pss_one (ps_ost (pv 0) (pv 2))))), ?_⟩
    walk_at "z"
    refine ⟨_, _, rfl, T.x_BadNumber.c, T.xn_BadNumber_code, .inl ⟨ha, fun d hd nda => ?_⟩⟩
    have h1 : upd (upd H d (exd d [("code", .str "BadNumber")])) a (exo a (He.ga K "BadNumber") (some d)) a = some (exo a (He.ga K "BadNumber") (some d)) := upd_same
    have h2 : upd (upd H d (exd d [("code", .str "BadNumber")])) a (exo a (He.ga K "BadNumber") (some d)) d = some (exd d [("code", .str "BadNumber")]) := by rw [upd_ne nda, upd_same]
    have h3 : ∀ b, b ≠ a → b ≠ d → upd (upd H d (exd d [("code", .str "BadNumber")])) a (exo a (He.ga K "BadNumber") (some d)) b = H b := fun b n1 n2 => by rw [upd_ne n1, upd_ne n2]
    generalize upd (upd H d _) a _ = H1 at *
    walk_at "z"
    refine ⟨_, _, rfl, T.x_BadNumber.c, T.xn_BadNumber_at, .inr ⟨d, _, h1, h2, by decide, ?_⟩⟩
    walk_at "z"
    refine ⟨_, _, rfl, T.x_BadNumber.c, T.xn_BadNumber_why, .inr ⟨d, _, (upd_ne nda.symm).trans h1, upd_same, by show 2 ≤ 900; decide, ?_⟩⟩
    refine k d _ hd nda ?_ upd_same fun b n1 n2 => ?_
    · rw [upd_ne nda.symm, upd_ne nda.symm]
      exact h1
    · rw [upd_ne n2, upd_ne n2]
      exact h3 b n1 n2
/-- raising it: the wish is asked of the heap with the error's own dict -/
theorem bn_raise {n : Int} {z : Str} {H : Hp} {E : XK} (hz : z ≠ Str.empty) (k : Out K n H E) : ∀ a, H a = none → spBN K (.ref a :: ([.int n, .str z] ++ [])) (upd H a (exo a (He.ga K "BadNumber") none))
    (fun v H2 => v = .non ∧ ∃ (d : Addr) (fs : List (Str × V)), H2 a = some (exo a (He.ga K "BadNumber") (some d)) ∧ H2 d = some (exd d fs) ∧ H d = none ∧ E (.ref (He.ga K "BadNumber")) (some d) (upd (del H2 a) d (.xd fs))) (fun _ _ _ => False) := fun a ha => by
  refine ⟨a, n, z, rfl, upd_same, fun d H' hd nda h1 h2 h3 => ⟨rfl, d, _, h1, h2, ?_, ?_⟩⟩
  · rw [upd_ne nda] at hd
    exact hd
  · have hd' : H d = none := by rw [upd_ne nda] at hd; exact hd
    refine k d _ z (fun b o e => ?_) hd' hz upd_same
    have n1 : b ≠ a := ne_of_none e ha
    have n2 : b ≠ d := ne_of_none e hd'
    rw [upd_ne n2, del_ne n1, h3 b n1 n2, upd_ne n1]
    exact e
/-! ### Ground.number -/
theorem ns_ne {a b : String} (h : Str.ofString a ≠ Str.ofString b) : ¬ (Str.ofString a = Str.ofString b) := h
def spNumber (K : PySem.W.Frag) : Sp := fun vs H Q E => ∃ (g : Addr) (p : Option Int) (a b : Int), vs = [.ref g, .int a, .int b] ∧ GdOk p ∧ GroundAt K H g p ∧ b.natAbs < 2 ^ 2900 ∧
  (bad p b → Out K 0 H E) ∧ (¬ bad p b → ∀ v H', Same H H' → RN H' v (nnum p a b) → Q v H')
theorem pinv_ok {p : Nat} (pm : Prime p) (h4 : p ≤ 10007) {b : Int} (h : b % p ≠ 0) : 0 ≤ pinv p (b % p) ∧ pinv p (b % p) < p ∧ (pinv p (b % p) * b) % p = 1 := by
  have hp := pm.1
  have h0 := Int.emod_nonneg b (show (p : Int) ≠ 0 by omega)
  have h1 := Int.emod_lt_of_pos b (show (0 : Int) < p by omega)
  obtain ⟨a, ha⟩ := Int.eq_ofNat_of_zero_le h0
  have e := pwN_inv (a := a) pm (by omega) (by rw [Nat.mod_eq_of_lt (by omega)]; omega)
  have l := pwN_lt (p := p) (by omega) 16 1 (p - 2) a (by omega)
  unfold pinv
  rw [ha, Int.toNat_natCast, Int.toNat_natCast]
  refine ⟨by omega, by omega, ?_⟩
  rw [Int.mul_emod, ha]
  rw [show ((a : Int)) = (a : Int) % p by rw [← ha, Int.emod_emod]] 
  rw [← Int.mul_emod]
  have : ((pwN p 16 1 (p - 2) a : Nat) : Int) * (a : Int) % (p : Int) = ((pwN p 16 1 (p - 2) a * a % p : Nat) : Int) := by norm_cast
  rw [this, e]
  rfl
theorem sc_Ground_number : FnScope ["self", "top", "bottom", "common"] ["self", "top", "bottom"] (defScope s_Ground_number) := ⟨rfl, rfl, rfl, by decide +kernel, rfl, by decide +kernel, by decide +kernel⟩
theorem ok_Ground_numberF (T : Tx K mg) : ∃ fd, FunD K d_Ground_number.name d_Ground_number.qual d_Ground_number.params d_Ground_number.body d_Ground_number.scope (d_Ground_number.dvs K) (d_Ground_number.kws K) (He.fAd K d_Ground_number.at_) fd ∧ FnOk P w K mg base (L2N.CX P w) 3 (He.fAd K d_Ground_number.at_) fd ["self", "top", "bottom"] (spNumber K) := by
  obtain ⟨fd, F⟩ := T.D_Ground_number
  refine ⟨fd, F, FunD.ok F sc_Ground_number (fun vs H Q E h => ?_) (fun cdv A outer s H vs Q E hr h => ?_)⟩
  · obtain ⟨g, p, a, b, rfl, _⟩ := h
    rfl
  · obtain ⟨g, p, a, b, rfl, hp, ⟨dx, hg⟩, hb, kb, kg⟩ := h
    refine ⟨_, (pss_cons (ps_if (pt_cmpR op_notN (pe_fld (pv 0) rfl) pe_non (nomark _)) (pss_cons (ps_if (pt_cmpR op_eq (pe_op op_mod (pv 2) (pe_fld (pv 0) rfl)) pe_int (nomark _)) (pss_one (L2N.ps_raise rfl (L2N.takes_of rfl rfl rfl rfl) (by exact (qmkN ((ok_BadNumber_init T).mono (by decide : 1 ≤ 1)) T.x_BadNumber (hr.mono (by decide)) pass0 T.g_BadNumber (pa_cons pe_int (pa_cons pe_str pa_nil)))))) pss_nil)
      (pss_one (ps_ret (pe_op op_mod (pe_op op_mul (pv 1) (qcall ((ok_inverse_modulo T).mono (by decide)) hr T.g_inverse_modulo pass0 (pa_cons (pv 2) (pa_cons (pe_fld (pv 0) rfl) pa_nil)))) (pe_fld (pv 0) rfl))))) pss_nil)
      (pss_cons (ps_if (pt_cmpR op_eq (pv 2) pe_int (nomark _)) (pss_one (L2N.ps_raise rfl (L2N.takes_of rfl rfl rfl rfl) (by exact (qmkN ((ok_BadNumber_init T).mono (by decide : 1 ≤ 1)) T.x_BadNumber (hr.mono (by decide)) pass0 T.g_BadNumber (pa_cons pe_int (pa_cons pe_str pa_nil)))))) pss_nil)
      (pss_cons (ps_set (i := 3) sc_Ground_number.nd rfl (Or.inl rfl) (pe_callBfun cr_gcd rfl T.g_gcd (pa_cons (pv 1) (pa_cons (pv 2) pa_nil))))
      (pss_cons (ps_if (pt_cmpR op_lt (pv 2) pe_int (nomark _)) (pss_one (ps_set (i := 3) sc_Ground_number.nd rfl (Or.inl rfl) (pe_un un_neg (pv 3)))) pss_nil)
      (pss_one (ps_ret (pe_tup (pa_cons (pe_op op_fdivZ (pv 1) (pv 3)) (pa_cons (pe_op op_fdivZ (pv 2) (pv 3)) pa_nil))))))))), ?_⟩
    cases p with
    | some p =>
      obtain ⟨m, rfl, pm, h3, h4⟩ := hp
      walk_at "z"
      refine ⟨_, _, _, _, _, rfl, hg, T.c_Ground, T.n_Ground_prime, rfl, ?_⟩
      walk_at "z"
      refine ⟨_, _, _, _, _, rfl, hg, T.c_Ground, T.n_Ground_prime, rfl, ?_⟩
      walk_at "z"
      refine ⟨by show (0 : Int) < m; omega, ?_⟩
      walk_at "z"
      refine ifb (fun e => ?_) (fun e => ?_)
      · have e1 : b % (m : Int) = 0 := by simpa using e
        walk_at "z"
        exact ⟨by show 2 ≤ 1000; decide, bn_raise (by decide) (kb e1)⟩
      · have e1 : b % (m : Int) ≠ 0 := by simpa using e
        obtain ⟨i0, i1, i2⟩ := pinv_ok pm h4 e1
        walk_at "z"
        refine ⟨_, _, _, _, _, rfl, hg, T.c_Ground, T.n_Ground_prime, rfl, ?_⟩
        refine ⟨b, m, rfl, pm, h3, h4, e1, fun r H1 s1 r0 r1 r2 => ?_⟩
        refine ⟨_, _, rfl, rfl, .inr ⟨by omega, by omega⟩, ?_⟩
        walk_at "z"
        refine ⟨_, _, _, _, _, rfl, s1 _ _ hg, T.c_Ground, T.n_Ground_prime, rfl, ?_⟩
        walk_at "z"
        refine ⟨by show (0 : Int) < m; omega, ?_⟩
        refine kg e1 _ _ s1 ?_
        have er := inv_unique r0 r1 i0 i1 r2 i2
        rw [er]
        rfl
    | none =>
      walk_at "z"
      refine ⟨_, _, _, _, _, rfl, hg, T.c_Ground, T.n_Ground_prime, rfl, ?_⟩
      walk_at "z"
      refine ifb (fun e => ?_) (fun e => ?_)
      · have e1 : b = 0 := by simpa using e
        walk_at "z"
        exact ⟨by show 2 ≤ 1000; decide, bn_raise (by decide) (kb e1)⟩
      · have e1 : b ≠ 0 := by simpa using e
        have hc := gcd_div (a := a) e1 hb
        have hg0 := gcd_pos (a := a) e1
        have ef := frac_fdiv (a := a) e1
        have fin : ∀ c : Int, c = (if b < 0 then -(Int.gcd a b : Int) else (Int.gcd a b : Int)) → CDivZ a c ∧ CDivZ b c := fun c hcc => by
          have h1 : c ≠ 0 := by rw [hcc]; split <;> omega
          have h2 : c.natAbs = (Int.gcd a b : Int).natAbs := by rw [hcc]; split <;> simp
          exact ⟨⟨h1, by rw [h2]; exact hc.2⟩, ⟨h1, by rw [h2]; exact hc.2⟩⟩
        walk_at "z"
        refine ifb (fun c => ?_) (fun c => ?_)
        · have c1 : b < 0 := of_decide_eq_true c
          rw [if_pos c1] at ef fin
          obtain ⟨f1, f2⟩ := fin _ rfl
          walk_at "z"
          refine ⟨f1, ?_⟩
          walk_at "z"
          refine ⟨f2, ?_⟩
          refine ⟨by show 2 ≤ sizeLine; decide, fun q hq => kg e1 _ _ (Same.new hq) ⟨q, rfl, ?_⟩⟩
          rw [upd_same, ef]
          rfl
        · have c1 : ¬ b < 0 := of_decide_eq_false c
          rw [if_neg c1] at ef fin
          obtain ⟨f1, f2⟩ := fin _ rfl
          walk_at "z"
          refine ⟨f1, ?_⟩
          walk_at "z"
          refine ⟨f2, ?_⟩
          refine ⟨by show 2 ≤ sizeLine; decide, fun q hq => kg e1 _ _ (Same.new hq) ⟨q, rfl, ?_⟩⟩
          rw [upd_same, ef]
          rfl
end

section
variable {P : Program} {w : World} {K : PySem.W.Frag} {mg : Str → Option Value} {base : Heap}
theorem ok_Ground_number2 (T : Tx K mg) : Fk P w K mg base (L2N.CX P w) 3 (He.fAd K d_Ground_number.at_) ["self", "top", "bottom"] [] (spNumber K) := by
  obtain ⟨fd, F, G⟩ := ok_Ground_numberF (P := P) (w := w) (base := base) T
  obtain ⟨ds, hv, hb⟩ := FunD.binds1 (ps := ["self", "top", "bottom"]) F 3 1 (by intro z; cases z) rfl (fun T kV doc pm an cdv ct us its hu hi => match us, hu, its, hi with | [_, _, _], _, [_], _ => ⟨_, rfl, rfl⟩)
  exact ⟨fd, ds, G, hb, hv, F.kp⟩
theorem ok_Ground_number1 (T : Tx K mg) : Fk P w K mg base (L2N.CX P w) 3 (He.fAd K d_Ground_number.at_) ["self", "top", "bottom"] [.int 1] (spNumber K) := by
  obtain ⟨fd, F, G⟩ := ok_Ground_numberF (P := P) (w := w) (base := base) T
  obtain ⟨ds, hv, hb⟩ := FunD.binds1 (ps := ["self", "top", "bottom"]) F 2 0 (by intro z; cases z) rfl (fun T kV doc pm an cdv ct us its hu hi => match us, hu, its, hi with | [_, _], _, [_], _ => ⟨_, rfl, rfl⟩)
  exact ⟨fd, ds, G, hb, hv, F.kp⟩
/-- an operation of a ground on two of its numbers -/
def spGop (K : PySem.W.Frag) (f : Option Int → Nm → Nm → Nm) : Sp := fun vs H Q _ => ∃ (g : Addr) (p : Option Int) (v u : V) (n m : Nm), vs = [.ref g, v, u] ∧ GdOk p ∧ GroundAt K H g p ∧ NOk p n ∧ NOk p m ∧ Sz n ∧ Sz m ∧ RN H v n ∧ RN H u m ∧ ∀ v H', Same H H' → RN H' v (f p n m) → Q v H'
theorem low_ne {t b : Int} (h : Low t b) : b ≠ 0 := by have := h.1; omega
theorem sc_Ground_add : FnScope ["self", "x", "y"] ["self", "x", "y"] (defScope s_Ground_add) := ⟨rfl, rfl, rfl, by decide +kernel, rfl, by decide +kernel, by decide +kernel⟩
theorem ok_Ground_add (T : Tx K mg) : Fk P w K mg base CX0 4 (He.fAd K d_Ground_add.at_) ["self", "x", "y"] [] (spGop K nadd) := by
  obtain ⟨fd, F⟩ := T.D_Ground_add
  refine ⟨fd, [], FunD.ok F sc_Ground_add (fun vs H Q E h => ?_) (fun cdv A outer s H vs Q E hr h => ?_), F.bindsN (fun _ _ _ _ _ _ us hl => match us, hl with | [_, _, _], _ => rfl), .nil, F.kp⟩
  · obtain ⟨g, p, v, u, n, m, rfl, _⟩ := h
    rfl
  · obtain ⟨g, p, v, u, n, m, rfl, hp, ⟨dx, hg⟩, hn, hm, zn, zm, hv, hu, k⟩ := h
    refine ⟨_, PSs.nox (pss_cons (ps_if (pt_cmpR op_notN (pe_fld (pv 0) rfl) pe_non (nomark _)) (pss_one (ps_ret (pe_op op_mod (pe_op op_add (pv 1) (pv 2)) (pe_fld (pv 0) rfl)))) pss_nil)
      (pss_one (ps_ret (qmeth ((ok_Ground_number2 T).mono (by decide)) hr T.c_Ground T.m_Ground_number passN (pv 0) (pa_cons (pe_op op_add (pe_op op_mulW (pe_ix ix_tup (pv 1) pe_int (fun _ _ => rfl)) (pe_ix ix_tup (pv 2) pe_int (fun _ _ => rfl))) (pe_op op_mulW (pe_ix ix_tup (pv 2) pe_int (fun _ _ => rfl)) (pe_ix ix_tup (pv 1) pe_int (fun _ _ => rfl)))) (pa_cons (pe_op op_mulW (pe_ix ix_tup (pv 1) pe_int (fun _ _ => rfl)) (pe_ix ix_tup (pv 2) pe_int (fun _ _ => rfl))) pa_nil)))))), ?_⟩
    match p, n, m, hn, hm with
    | none, .q t b, .q c d, hn, hm =>
      obtain ⟨a, rfl, ha⟩ := hv
      obtain ⟨e, rfl, he⟩ := hu
      have hne : b * d ≠ 0 := Int.mul_ne_zero (low_ne hn) (low_ne hm)
      walk_at "z"
      refine ⟨_, _, _, _, _, rfl, hg, T.c_Ground, T.n_Ground_prime, rfl, ?_⟩
      walk_at "z"
      refine ⟨_, _, _, rfl, hg, rfl, ?_⟩
      walk_at "z"
      refine ⟨_, _, _, _, rfl, rfl, SqT.of' ha, rfl, ?_⟩
      walk_at "z"
      refine ⟨_, _, _, _, rfl, rfl, SqT.of' he, rfl, ?_⟩
      refine ⟨_, _, rfl, rfl, mul_w zn.1 zm.2, ?_⟩
      walk_at "z"
      refine ⟨_, _, _, _, rfl, rfl, SqT.of' he, rfl, ?_⟩
      walk_at "z"
      refine ⟨_, _, _, _, rfl, rfl, SqT.of' ha, rfl, ?_⟩
      refine ⟨_, _, rfl, rfl, mul_w zm.1 zn.2, ?_⟩
      walk_at "z"
      refine ⟨_, _, _, _, rfl, rfl, SqT.of' ha, rfl, ?_⟩
      walk_at "z"
      refine ⟨_, _, _, _, rfl, rfl, SqT.of' he, rfl, ?_⟩
      refine ⟨_, _, rfl, rfl, mul_w zn.2 zm.2, ?_⟩
      exact ⟨g, none, _, _, rfl, hp, ⟨dx, hg⟩, lt_2900 (mul_sz zn.2 zm.2), fun z => absurd z hne, fun _ => k⟩
    | some p, .r a, .r b, hn, hm =>
      have := gd_pos hp
      obtain rfl : v = .int a := hv
      obtain rfl : u = .int b := hu
      walk_at "z"
      refine ⟨_, _, _, _, _, rfl, hg, T.c_Ground, T.n_Ground_prime, rfl, ?_⟩
      walk_at "z"
      refine ⟨_, _, _, _, _, rfl, hg, T.c_Ground, T.n_Ground_prime, rfl, ?_⟩
      walk_at "z"
      refine ⟨by show 0 < p; omega, k _ _ (Same.refl _) rfl⟩
def nsub (p : Option Int) (n m : Nm) : Nm := nadd p n (nneg p m)
theorem sc_Ground_sub : FnScope ["self", "x", "y"] ["self", "x", "y"] (defScope s_Ground_sub) := ⟨rfl, rfl, rfl, by decide +kernel, rfl, by decide +kernel, by decide +kernel⟩
theorem ok_Ground_sub (T : Tx K mg) : Fk P w K mg base CX0 4 (He.fAd K d_Ground_sub.at_) ["self", "x", "y"] [] (spGop K nsub) := by
  obtain ⟨fd, F⟩ := T.D_Ground_sub
  refine ⟨fd, [], FunD.ok F sc_Ground_sub (fun vs H Q E h => ?_) (fun cdv A outer s H vs Q E hr h => ?_), F.bindsN (fun _ _ _ _ _ _ us hl => match us, hl with | [_, _, _], _ => rfl), .nil, F.kp⟩
  · obtain ⟨g, p, v, u, n, m, rfl, _⟩ := h
    rfl
  · obtain ⟨g, p, v, u, n, m, rfl, hp, ⟨dx, hg⟩, hn, hm, zn, zm, hv, hu, k⟩ := h
    refine ⟨_, PSs.nox (pss_cons (ps_if (pt_cmpR op_notN (pe_fld (pv 0) rfl) pe_non (nomark _)) (pss_one (ps_ret (pe_op op_mod (pe_op op_sub (pv 1) (pv 2)) (pe_fld (pv 0) rfl)))) pss_nil)
      (pss_one (ps_ret (qmeth ((ok_Ground_number2 T).mono (by decide)) hr T.c_Ground T.m_Ground_number passN (pv 0) (pa_cons (pe_op op_sub (pe_op op_mulW (pe_ix ix_tup (pv 1) pe_int (fun _ _ => rfl)) (pe_ix ix_tup (pv 2) pe_int (fun _ _ => rfl))) (pe_op op_mulW (pe_ix ix_tup (pv 2) pe_int (fun _ _ => rfl)) (pe_ix ix_tup (pv 1) pe_int (fun _ _ => rfl)))) (pa_cons (pe_op op_mulW (pe_ix ix_tup (pv 1) pe_int (fun _ _ => rfl)) (pe_ix ix_tup (pv 2) pe_int (fun _ _ => rfl))) pa_nil)))))), ?_⟩
    match p, n, m, hn, hm with
    | none, .q t b, .q c d, hn, hm =>
      obtain ⟨a, rfl, ha⟩ := hv
      obtain ⟨e, rfl, he⟩ := hu
      have hne : b * d ≠ 0 := Int.mul_ne_zero (low_ne hn) (low_ne hm)
      walk_at "z"
      refine ⟨_, _, _, _, _, rfl, hg, T.c_Ground, T.n_Ground_prime, rfl, ?_⟩
      walk_at "z"
      refine ⟨_, _, _, rfl, hg, rfl, ?_⟩
      walk_at "ti"
      walk_at "ti"
      refine ⟨_, _, rfl, rfl, mul_w zn.1 zm.2, ?_⟩
      walk_at "ti"
      walk_at "ti"
      refine ⟨_, _, rfl, rfl, mul_w zm.1 zn.2, ?_⟩
      walk_at "ti"
      walk_at "ti"
      refine ⟨_, _, rfl, rfl, mul_w zn.2 zm.2, ?_⟩
      refine ⟨g, none, _, _, rfl, hp, ⟨dx, hg⟩, lt_2900 (mul_sz zn.2 zm.2), fun z => absurd z hne, fun _ v H' s1 r => k v H' s1 ?_⟩
      have e : t * d - c * b = t * d + -c * b := by rw [Int.neg_mul]; omega
      have r' : RN H' v (nfr (frac (t * d - c * b) (b * d))) := r
      rw [e] at r'
      exact r'
    | some p, .r a, .r b, hn, hm =>
      have := gd_pos hp
      obtain rfl : v = .int a := hv
      obtain rfl : u = .int b := hu
      walk_at "z"
      refine ⟨_, _, _, _, _, rfl, hg, T.c_Ground, T.n_Ground_prime, rfl, ?_⟩
      walk_at "z"
      refine ⟨_, _, _, _, _, rfl, hg, T.c_Ground, T.n_Ground_prime, rfl, ?_⟩
      walk_at "z"
      refine ⟨by show 0 < p; omega, k _ _ (Same.refl _) ?_⟩
      show V.int ((a - b) % p) = V.int ((a + -b % p) % p)
      rw [Int.add_emod_emod, Int.sub_eq_add_neg]
theorem sc_Ground_mul : FnScope ["self", "x", "y"] ["self", "x", "y"] (defScope s_Ground_mul) := ⟨rfl, rfl, rfl, by decide +kernel, rfl, by decide +kernel, by decide +kernel⟩
theorem ok_Ground_mul (T : Tx K mg) : Fk P w K mg base CX0 4 (He.fAd K d_Ground_mul.at_) ["self", "x", "y"] [] (spGop K nmul) := by
  obtain ⟨fd, F⟩ := T.D_Ground_mul
  refine ⟨fd, [], FunD.ok F sc_Ground_mul (fun vs H Q E h => ?_) (fun cdv A outer s H vs Q E hr h => ?_), F.bindsN (fun _ _ _ _ _ _ us hl => match us, hl with | [_, _, _], _ => rfl), .nil, F.kp⟩
  · obtain ⟨g, p, v, u, n, m, rfl, _⟩ := h
    rfl
  · obtain ⟨g, p, v, u, n, m, rfl, hp, ⟨dx, hg⟩, hn, hm, zn, zm, hv, hu, k⟩ := h
    refine ⟨_, PSs.nox (pss_cons (ps_if (pt_cmpR op_notN (pe_fld (pv 0) rfl) pe_non (nomark _)) (pss_one (ps_ret (pe_op op_mod (pe_op op_mulW (pv 1) (pv 2)) (pe_fld (pv 0) rfl)))) pss_nil)
      (pss_one (ps_ret (qmeth ((ok_Ground_number2 T).mono (by decide)) hr T.c_Ground T.m_Ground_number passN (pv 0) (pa_cons (pe_op op_mulW (pe_ix ix_tup (pv 1) pe_int (fun _ _ => rfl)) (pe_ix ix_tup (pv 2) pe_int (fun _ _ => rfl))) (pa_cons (pe_op op_mulW (pe_ix ix_tup (pv 1) pe_int (fun _ _ => rfl)) (pe_ix ix_tup (pv 2) pe_int (fun _ _ => rfl))) pa_nil)))))), ?_⟩
    match p, n, m, hn, hm with
    | none, .q t b, .q c d, hn, hm =>
      obtain ⟨a, rfl, ha⟩ := hv
      obtain ⟨e, rfl, he⟩ := hu
      have hne : b * d ≠ 0 := Int.mul_ne_zero (low_ne hn) (low_ne hm)
      walk_at "z"
      refine ⟨_, _, _, _, _, rfl, hg, T.c_Ground, T.n_Ground_prime, rfl, ?_⟩
      walk_at "z"
      refine ⟨_, _, _, rfl, hg, rfl, ?_⟩
      walk_at "ti"
      walk_at "ti"
      refine ⟨_, _, rfl, rfl, mul_w zn.1 zm.1, ?_⟩
      walk_at "ti"
      walk_at "ti"
      refine ⟨_, _, rfl, rfl, mul_w zn.2 zm.2, ?_⟩
      exact ⟨g, none, _, _, rfl, hp, ⟨dx, hg⟩, lt_2900 (mul_sz zn.2 zm.2), fun z => absurd z hne, fun _ => k⟩
    | some p, .r a, .r b, hn, hm =>
      have h3 := gd_pos hp
      obtain rfl : v = .int a := hv
      obtain rfl : u = .int b := hu
      walk_at "z"
      refine ⟨_, _, _, _, _, rfl, hg, T.c_Ground, T.n_Ground_prime, rfl, ?_⟩
      walk_at "z"
      refine ⟨rest_w h3 hn hm, ?_⟩
      walk_at "z"
      refine ⟨_, _, _, _, _, rfl, hg, T.c_Ground, T.n_Ground_prime, rfl, ?_⟩
      walk_at "z"
      exact ⟨by show 0 < p; omega, k _ _ (Same.refl _) rfl⟩
def nless : Nm → Nm → Bool
  | .q t b, .q c d => decide (t * d < c * b)
  | .r a, .r b => decide (a < b)
  | _, _ => false
def spLess (K : PySem.W.Frag) : Sp := fun vs H Q _ => ∃ (g : Addr) (p : Option Int) (v u : V) (n m : Nm), vs = [.ref g, v, u] ∧ GdOk p ∧ GroundAt K H g p ∧ NOk p n ∧ NOk p m ∧ Sz n ∧ Sz m ∧ RN H v n ∧ RN H u m ∧ Q (.bl (nless n m)) H
theorem sc_Ground_less : FnScope ["self", "x", "y"] ["self", "x", "y"] (defScope s_Ground_less) := ⟨rfl, rfl, rfl, by decide +kernel, rfl, by decide +kernel, by decide +kernel⟩
theorem ok_Ground_less (T : Tx K mg) : Fk P w K mg base CX0 1 (He.fAd K d_Ground_less.at_) ["self", "x", "y"] [] (spLess K) := by
  obtain ⟨fd, F⟩ := T.D_Ground_less
  refine ⟨fd, [], FunD.ok F sc_Ground_less (fun vs H Q E h => ?_) (fun cdv A outer s H vs Q E hr h => ?_), F.bindsN (fun _ _ _ _ _ _ us hl => match us, hl with | [_, _, _], _ => rfl), .nil, F.kp⟩
  · obtain ⟨g, p, v, u, n, m, rfl, _⟩ := h
    rfl
  · obtain ⟨g, p, v, u, n, m, rfl, hp, ⟨dx, hg⟩, hn, hm, zn, zm, hv, hu, k⟩ := h
    refine ⟨_, PSs.nox (pss_cons (ps_if (pt_cmpR op_notN (pe_fld (pv 0) rfl) pe_non (nomark _)) (pss_one (ps_ret (pe_cmpR op_lt (pv 1) (pv 2) (nomark _)))) pss_nil)
      (pss_one (ps_ret (pe_cmpR op_lt (pe_op op_mulW (pe_ix ix_tup (pv 1) pe_int (fun _ _ => rfl)) (pe_ix ix_tup (pv 2) pe_int (fun _ _ => rfl))) (pe_op op_mulW (pe_ix ix_tup (pv 2) pe_int (fun _ _ => rfl)) (pe_ix ix_tup (pv 1) pe_int (fun _ _ => rfl))) (nomark _))))), ?_⟩
    match p, n, m, hn, hm with
    | none, .q t b, .q c d, hn, hm =>
      obtain ⟨a, rfl, ha⟩ := hv
      obtain ⟨e, rfl, he⟩ := hu
      walk_at "z"
      refine ⟨_, _, _, _, _, rfl, hg, T.c_Ground, T.n_Ground_prime, rfl, ?_⟩
      walk_at "ti"
      walk_at "ti"
      refine ⟨_, _, rfl, rfl, mul_w zn.1 zm.2, ?_⟩
      walk_at "ti"
      walk_at "ti"
      refine ⟨_, _, rfl, rfl, mul_w zm.1 zn.2, ?_⟩
      exact ⟨_, _, rfl, rfl, k⟩
    | some p, .r a, .r b, hn, hm =>
      obtain rfl : v = .int a := hv
      obtain rfl : u = .int b := hu
      walk_at "z"
      refine ⟨_, _, _, _, _, rfl, hg, T.c_Ground, T.n_Ground_prime, rfl, ?_⟩
      walk_at "z"
      exact k
def spShow (K : PySem.W.Frag) : Sp := fun vs H Q _ => ∃ (g : Addr) (p : Option Int) (v : V) (n : Nm), vs = [.ref g, v] ∧ GdOk p ∧ GroundAt K H g p ∧ NOk p n ∧ Sz n ∧ RN H v n ∧ Q (.str (shown n)) H
theorem sc_Ground_show : FnScope ["self", "x"] ["self", "x"] (defScope s_Ground_show) := ⟨rfl, rfl, rfl, by decide +kernel, rfl, by decide +kernel, by decide +kernel⟩
theorem ok_Ground_show (T : Tx K mg) : Fk P w K mg base CX0 1 (He.fAd K d_Ground_show.at_) ["self", "x"] [] (spShow K) := by
  obtain ⟨fd, F⟩ := T.D_Ground_show
  refine ⟨fd, [], FunD.ok F sc_Ground_show (fun vs H Q E h => ?_) (fun cdv A outer s H vs Q E hr h => ?_), F.bindsN (fun _ _ _ _ _ _ us hl => match us, hl with | [_, _], _ => rfl), .nil, F.kp⟩
  · obtain ⟨g, p, v, n, rfl, _⟩ := h
    rfl
  · obtain ⟨g, p, v, n, rfl, hp, ⟨dx, hg⟩, hn, zn, hv, k⟩ := h
    refine ⟨_, PSs.nox (pss_cons (ps_if (pt_cmpR op_notN (pe_fld (pv 0) rfl) pe_non (nomark _)) (pss_one (ps_ret (pe_callTy call_str_int (by rfl) T.f_str (by decide +kernel) (pa_cons (pv 1) pa_nil)))) pss_nil)
      (pss_one (ps_ret (pe_ifExp (pt_cmpR op_eq (pe_ix ix_tup (pv 1) pe_int (fun _ _ => rfl)) pe_int (nomark _)) (pe_callTy call_str_int (by rfl) T.f_str (by decide +kernel) (pa_cons (pe_ix ix_tup (pv 1) pe_int (fun _ _ => rfl)) pa_nil)) (pe_joined (PJ.cons (pe_fmt (pe_ix ix_tup (pv 1) pe_int (fun _ _ => rfl))) (PJ.cons pe_str (PJ.cons (pe_fmt (pe_ix ix_tup (pv 1) pe_int (fun _ _ => rfl))) PJ.nil)))))))), ?_⟩
    match p, n, hn with
    | none, .q t b, hn =>
      obtain ⟨a, rfl, ha⟩ := hv
      have l1 := sInt_len zn.1
      have l2 := sInt_len zn.2
      have l3 := slash_len zn.1 zn.2
      walk_at "z"
      refine ⟨_, _, _, _, _, rfl, hg, T.c_Ground, T.n_Ground_prime, rfl, ?_⟩
      walk_at "ti"
      walk_at "z"
      refine ifb (fun e => ?_) (fun e => ?_)
      · have e1 : b = 1 := by simpa using e
        subst e1
        walk_at "ti"
        exact ⟨_, rfl, log_lt zn.1, k⟩
      · have e1 : b ≠ 1 := by simpa using e
        walk_at "ti"
        refine .inr ⟨t, rfl, log_lt zn.1, ?_⟩
        refine ⟨sInt t, rfl, ?_, ?_⟩
        · rw [empty_app, sizeLine_eq]
          omega
        walk_at "z"
        refine ⟨?_, ?_⟩
        · rw [empty_app, len_tl, tl_append, List.length_append, ← len_tl, sizeLine_eq]
          show (sInt t).length + 1 ≤ _
          omega
        walk_at "ti"
        refine .inr ⟨b, rfl, log_lt zn.2, ?_⟩
        refine ⟨sInt b, rfl, ?_, ?_⟩
        · rw [empty_app, sizeLine_eq]
          exact Nat.le_trans l3 (by decide)
        · show Q (.str (Str.empty ++ sInt t ++ "/" ++ sInt b)) H
          rw [empty_app]
          have : shown (.q t b) = sInt t ++ "/" ++ sInt b := if_neg e1
          rw [← this]
          exact k
    | some p, .r a, hn =>
      have h3 := gd_pos hp
      obtain rfl : v = .int a := hv
      walk_at "z"
      refine ⟨_, _, _, _, _, rfl, hg, T.c_Ground, T.n_Ground_prime, rfl, ?_⟩
      walk_at "z"
      refine ⟨log_lt (small_sz hn.1 (by have := hn.2; omega)), k⟩
end

/-! ### equality of numbers as the machine sees it -/
def pyN : Nm → PyData
  | .r n => .int n
  | .q t b => .tuple [.int t, .int b]
theorem RN.dp {K : PySem.W.Frag} {H : Hp} {v : V} : ∀ {n : Nm}, RN H v n → Dp K H v (pyN n)
  | .r n, h => by
    obtain rfl : v = .int n := h
    exact .int n
  | .q t b, ⟨a, e, h⟩ => by
    subst e
    exact .tup (SqT.of' h) (.cons (.int t) (.cons (.int b) .nil))
theorem shaped_pyN : ∀ n : Nm, SeqAt.shaped (pyN n) = true
  | .r _ => rfl
  | .q _ _ => rfl
theorem frac01 : frac 0 1 = (0, 1) := by decide
theorem nnum01 {p : Option Int} : nnum p 0 1 = (match p with | none => .q 0 1 | some _ => .r 0) := by
  cases p with
  | none =>
    show nfr (frac 0 1) = _
    rw [frac01]
    rfl
  | some p =>
    show Nm.r (0 * _ % p) = .r 0
    rw [Int.zero_mul, Int.zero_emod]
theorem eqv_zero {p : Option Int} {m : Nm} (hm : NOk p m) : PyData.eqv (pyN m) (pyN (nnum p 0 1)) = true ↔ nzero m := by
  rw [nnum01]
  match p, m, hm with
  | none, .q c d, hm =>
    show (c == 0 && (d == 1 && true)) = true ↔ c = 0
    simp only [Bool.and_true, Bool.and_eq_true, beq_iff_eq]
    refine ⟨fun z => z.1, fun z => ⟨z, ?_⟩⟩
    have h := hm.2
    have h1 := hm.1
    rw [z, Int.gcd_zero_left] at h
    omega
  | some p, .r a, hm =>
    show (a == 0) = true ↔ a = 0
    simp
theorem div_frac {t b c d : Int} (hb : b ≠ 0) (hc : c ≠ 0) : frac (t * d) (b * c) = frac (t * (frac d c).1) (b * (frac d c).2) := by
  have e := frac_cross (a := d) hc
  have l := (frac_low (a := d) hc).1
  refine frac_of (Int.mul_ne_zero hb hc) (Int.mul_ne_zero hb (by omega)) ?_
  generalize (frac d c).1 = x at *
  generalize (frac d c).2 = y at *
  have : t * d * (b * y) = t * b * (d * y) := by grind
  rw [this, ← e]
  grind
section
variable {P : Program} {w : World} {K : PySem.W.Frag} {mg : Str → Option Value} {base : Heap}
def spDiv (K : PySem.W.Frag) : Sp := fun vs H Q E => ∃ (g : Addr) (p : Option Int) (v u : V) (n m : Nm), vs = [.ref g, v, u] ∧ GdOk p ∧ GroundAt K H g p ∧ NOk p n ∧ NOk p m ∧ Sz n ∧ Sz m ∧ RN H v n ∧ RN H u m ∧
  (nzero m → Out K 1 H E) ∧ (¬ nzero m → ∀ v H', Same H H' → RN H' v (nmul p n (ninv p m)) → Q v H')
theorem Out.ex {K : PySem.W.Frag} {n : Int} {H H' : Hp} {E : XK} (o : Out K n H E) (e : Same H H') : Out K n H' E := fun d H'' z s hd hz hx => o d H'' z (e.trans s) (e.free hd) hz hx
theorem small_one : (1 : Int).natAbs < 2 ^ 2900 := Nat.lt_of_lt_of_le (show (1 : Int).natAbs < 2 by decide) (show 2 ^ 1 ≤ 2 ^ 2900 from Nat.pow_le_pow_right (by decide) (by decide))
theorem not_bad1 {p : Option Int} (hp : GdOk p) : ¬ bad p 1 := by
  cases p with
  | none => intro z; cases z
  | some p =>
    have := gd_pos hp
    intro z
    have z : (1 : Int) % p = 0 := z
    rw [Int.emod_eq_of_lt (by decide) (by omega)] at z
    cases z
theorem sc_Ground_div : FnScope ["self", "x", "y"] ["self", "x", "y"] (defScope s_Ground_div) := ⟨rfl, rfl, rfl, by decide +kernel, rfl, by decide +kernel, by decide +kernel⟩
theorem ok_Ground_div (T : Tx K mg) : Fk P w K mg base (L2N.CX P w) 4 (He.fAd K d_Ground_div.at_) ["self", "x", "y"] [] (spDiv K) := by
  obtain ⟨fd, F⟩ := T.D_Ground_div
  refine ⟨fd, [], FunD.ok F sc_Ground_div (fun vs H Q E h => ?_) (fun cdv A outer s H vs Q E hr h => ?_), F.bindsN (fun _ _ _ _ _ _ us hl => match us, hl with | [_, _, _], _ => rfl), .nil, F.kp⟩
  · obtain ⟨g, p, v, u, n, m, rfl, _⟩ := h
    rfl
  · obtain ⟨g, p, v, u, n, m, rfl, hp, ⟨dx, hg⟩, hn, hm, zn, zm, hv, hu, kb, kg⟩ := h
    refine ⟨_, (pss_cons (ps_if (pt_cmpR (op_eqD hr.units) (pv 2) (qmeth ((ok_Ground_number1 T).mono (by decide)) hr T.c_Ground T.m_Ground_number passN (pv 0) (pa_cons pe_int pa_nil)) (nomark _)) (pss_one (L2N.ps_raise rfl (L2N.takes_of rfl rfl rfl rfl) (by exact (qmkN ((ok_BadNumber_init T).mono (by decide : 1 ≤ 1)) T.x_BadNumber (hr.mono (by decide)) pass0 T.g_BadNumber (pa_cons pe_int (pa_cons pe_str pa_nil)))))) pss_nil)
      (pss_cons (ps_if (pt_cmpR op_notN (pe_fld (pv 0) rfl) pe_non (nomark _)) (pss_one (ps_ret (pe_op op_mod (pe_op op_mulW (pv 1) (qcall ((ok_inverse_modulo T).mono (by decide)) hr T.g_inverse_modulo pass0 (pa_cons (pv 2) (pa_cons (pe_fld (pv 0) rfl) pa_nil)))) (pe_fld (pv 0) rfl)))) pss_nil)
      (pss_one (ps_ret (qmeth ((ok_Ground_number2 T).mono (by decide)) hr T.c_Ground T.m_Ground_number passN (pv 0) (pa_cons (pe_op op_mulW (pe_ix ix_tup (pv 1) pe_int (fun _ _ => rfl)) (pe_ix ix_tup (pv 2) pe_int (fun _ _ => rfl))) (pa_cons (pe_op op_mulW (pe_ix ix_tup (pv 1) pe_int (fun _ _ => rfl)) (pe_ix ix_tup (pv 2) pe_int (fun _ _ => rfl))) pa_nil))))))), ?_⟩
    walk_at "z"
    refine ⟨_, _, _, rfl, hg, rfl, ?_⟩
    refine ⟨g, p, 0, 1, rfl, hp, ⟨dx, hg⟩, small_one, fun z => absurd z (not_bad1 hp), fun _ z0 H1 s1 r0 => ?_⟩
    have hu1 := hu.ex s1
    have hv1 := hv.ex s1
    have hg1 := s1 _ _ hg
    refine ⟨_, _, hu1.dp, r0.dp, shaped_pyN _, shaped_pyN _, ?_⟩
    walk_at "z"
    refine ifb (fun e => ?_) (fun e => ?_)
    · have e1 := (eqv_zero hm).mp e
      walk_at "z"
      exact ⟨by show 2 ≤ 1000; decide, bn_raise (by decide) ((kb e1).ex s1)⟩
    · have e1 : ¬ nzero m := fun z => by
        rw [(eqv_zero hm).mpr z] at e
        cases e
      have kg := kg e1
      match p, n, m, hn, hm with
      | none, .q t b, .q c d, hn, hm =>
        obtain ⟨a, rfl, ha⟩ := hv1
        obtain ⟨f, rfl, he⟩ := hu1
        have hne : b * c ≠ 0 := Int.mul_ne_zero (low_ne hn) e1
        walk_at "z"
        refine ⟨_, _, _, _, _, rfl, hg1, T.c_Ground, T.n_Ground_prime, rfl, ?_⟩
        walk_at "z"
        refine ⟨_, _, _, rfl, hg1, rfl, ?_⟩
        walk_at "ti"
        walk_at "ti"
        refine ⟨_, _, rfl, rfl, mul_w zn.1 zm.2, ?_⟩
        walk_at "ti"
        walk_at "ti"
        refine ⟨_, _, rfl, rfl, mul_w zn.2 zm.1, ?_⟩
        refine ⟨g, none, _, _, rfl, hp, ⟨dx, hg1⟩, lt_2900 (mul_sz zn.2 zm.1), fun z => absurd z hne, fun _ v H' s2 r => kg v H' (s1.trans s2) ?_⟩
        have r' : RN H' v (nfr (frac (t * d) (b * c))) := r
        rw [div_frac (low_ne hn) e1] at r'
        exact r'
      | some p, .r a, .r b, hn, hm =>
        have h3 := gd_pos hp
        obtain ⟨k, rfl, pm, k3, k4⟩ := hp
        obtain rfl : v = .int a := hv1
        obtain rfl : u = .int b := hu1
        have hb : b % (k : Int) = b := Int.emod_eq_of_lt hm.1 hm.2
        have hb0 : b % (k : Int) ≠ 0 := by rw [hb]; exact e1
        obtain ⟨i0, i1, i2⟩ := pinv_ok pm k4 hb0
        rw [hb] at i0 i1 i2
        walk_at "z"
        refine ⟨_, _, _, _, _, rfl, hg1, T.c_Ground, T.n_Ground_prime, rfl, ?_⟩
        walk_at "z"
        refine ⟨_, _, _, _, _, rfl, hg1, T.c_Ground, T.n_Ground_prime, rfl, ?_⟩
        refine ⟨b, k, rfl, pm, k3, k4, hb0, fun r H2 s2 r0 r1 r2 => ?_⟩
        refine ⟨_, _, rfl, rfl, rest_w h3 hn ⟨r0, r1⟩, ?_⟩
        walk_at "z"
        refine ⟨_, _, _, _, _, rfl, s2 _ _ hg1, T.c_Ground, T.n_Ground_prime, rfl, ?_⟩
        walk_at "z"
        refine ⟨by show (0 : Int) < k; omega, kg _ _ (s1.trans s2) ?_⟩
        rw [inv_unique r0 r1 i0 i1 r2 i2]
        rfl
/-! ### Ground.__eq__, Ground.__init__ -/
def spGeq (K : PySem.W.Frag) : Sp := fun vs H Q _ => ∃ (g h : Addr) (p q : Option Int), vs = [.ref g, .ref h] ∧ GroundAt K H g p ∧ GroundAt K H h q ∧ Q (.bl (decide (lineOf p = lineOf q))) H
theorem sc_Ground_eq : FnScope ["self", "other"] ["self", "other"] (defScope s_Ground_eq) := ⟨rfl, rfl, rfl, by decide +kernel, rfl, by decide +kernel, by decide +kernel⟩
theorem ok_Ground_eq (T : Tx K mg) : Fk P w K mg base CX0 1 (He.fAd K d_Ground_eq.at_) ["self", "other"] [] (spGeq K) := by
  obtain ⟨fd, F⟩ := T.D_Ground_eq
  refine ⟨fd, [], FunD.ok F sc_Ground_eq (fun vs H Q E h => ?_) (fun cdv A outer s H vs Q E hr h => ?_), F.bindsN (fun _ _ _ _ _ _ us hl => match us, hl with | [_, _], _ => rfl), .nil, F.kp⟩
  · obtain ⟨g, h, p, q, rfl, _⟩ := h
    rfl
  · obtain ⟨g, h, p, q, rfl, ⟨dx, hg⟩, ⟨dy, hh⟩, k⟩ := h
    refine ⟨_, PSs.nox (pss_cons (ps_if (pt_not (pt_val (pe_callB call_isi (by rfl) T.f_isinstance (by decide +kernel) (pa_cons (pv 1) (pa_cons (pe_glob (by rfl) T.g_Ground (v := .ref _) rfl) pa_nil))))) (pss_one (ps_ret pe_bl)) pss_nil)
      (pss_one (ps_ret (pe_cmpR op_eq (pe_fld (pv 0) rfl) (pe_fld (pv 1) rfl) (nomark _))))), ?_⟩
    walk_at "z"
    refine ⟨_, _, _, _, true, rfl, .own _, T.ty_Ground.tyx T.c_Ground hh, kit_self, ?_⟩
    walk_at "z"
    refine ⟨_, _, _, _, _, rfl, hg, T.c_Ground, T.n_Ground_line, rfl, ?_⟩
    walk_at "z"
    refine ⟨_, _, _, _, _, rfl, hh, T.c_Ground, T.n_Ground_line, rfl, ?_⟩
    walk_at "z"
    have e : decide (V.str (lineOf p) = V.str (lineOf q)) = decide (lineOf p = lineOf q) := by
      rw [decide_eq_decide]
      exact ⟨fun z => by injection z, fun z => by rw [z]⟩
    rw [e]
    exact k
def spGinit (K : PySem.W.Frag) : Sp := fun vs H Q _ => ∃ (g dx : Addr) (p : Option Int), vs = [.ref g, .str (lineOf p)] ∧ GdOk p ∧ H g = some (.ins (He.ga K "Ground") dx []) ∧ ∀ H', GroundAt K H' g p → (∀ b o, H b = some o → b ≠ g → H' b = some o) → Q .non H'
theorem kline : ¬ (("prime" : Str) = "line") := by decide +kernel
theorem sc_Ground_init : FnScope ["self", "line"] ["self", "line"] (defScope s_Ground_init) := ⟨rfl, rfl, rfl, by decide +kernel, rfl, by decide +kernel, by decide +kernel⟩
theorem ok_Ground_init (T : Tx K mg) : Fk P w K mg base CX0 3 (He.fAd K d_Ground_init.at_) ["self", "line"] [] (spGinit K) := by
  obtain ⟨fd, F⟩ := T.D_Ground_init
  refine ⟨fd, [], FunD.ok F sc_Ground_init (fun vs H Q E h => ?_) (fun cdv A outer s H vs Q E hr h => ?_), F.bindsN (fun _ _ _ _ _ _ us hl => match us, hl with | [_, _], _ => rfl), .nil, F.kp⟩
  · obtain ⟨g, dx, p, rfl, _⟩ := h
    rfl
  · obtain ⟨g, dx, p, rfl, hp, hg, k⟩ := h
    refine ⟨_, PSs.nox (pss_cons (ps_fld (pv 0) (pv 1) rfl)
      (pss_one (ps_fld (pv 0) (qcall ((ok_prime_of_line T).mono (by decide)) hr T.g_prime_of_line pass0 (pa_cons (pv 1) pa_nil)) rfl))), ?_⟩
    walk_at "z"
    refine ⟨_, _, _, _, rfl, hg, T.c_Ground, T.n_Ground_line, by decide, ?_⟩
    walk_at "z"
    refine ⟨hp, ?_⟩
    walk_at "z"
    refine ⟨_, _, _, _, rfl, upd_same, T.c_Ground, T.n_Ground_prime, by show 1 < 1000; decide, ?_⟩
    refine k _ ⟨dx, ?_⟩ (fun b o e n => ?_)
    · rw [upd_same]
      rfl
    · rw [upd_ne n, upd_ne n]
      exact e
end

/-! ### Ground.read_number -/
def rd (p : Option Int) (l : List Nat) : Option Nm := match p with
  | none => (frt l).map nfr
  | some p => (match uns l with
    | some n => if (n : Int) < p then some (.r n) else none
    | none => none)
section
variable {P : Program} {w : World} {K : PySem.W.Frag} {mg : Str → Option Value} {base : Heap}
def spRead (K : PySem.W.Frag) : Sp := fun vs H Q E => ∃ (g : Addr) (p : Option Int) (x : Str), vs = [.ref g, .str x] ∧ GdOk p ∧ GroundAt K H g p ∧ x.length ≤ 1000000 ∧ (rd p (tl x) = none → Out K 0 H E) ∧ (∀ n, rd p (tl x) = some n → ∀ v H', Same H H' → RN H' v n → Q v H')
theorem sc_Ground_read_number : FnScope ["self", "text", "number"] ["self", "text"] (defScope s_Ground_read_number) := ⟨rfl, rfl, rfl, by decide +kernel, rfl, by decide +kernel, by decide +kernel⟩
theorem ok_Ground_read_number (T : Tx K mg) : Fk P w K mg base (L2N.CX P w) 4 (He.fAd K d_Ground_read_number.at_) ["self", "text"] [] (spRead K) := by
  obtain ⟨fd, F⟩ := T.D_Ground_read_number
  refine ⟨fd, [], FunD.ok F sc_Ground_read_number (fun vs H Q E h => ?_) (fun cdv A outer s H vs Q E hr h => ?_), F.bindsN (fun _ _ _ _ _ _ us hl => match us, hl with | [_, _], _ => rfl), .nil, F.kp⟩
  · obtain ⟨g, p, x, rfl, _⟩ := h
    rfl
  · obtain ⟨g, p, x, rfl, hp, ⟨dx, hg⟩, hx, kb, kg⟩ := h
    refine ⟨_, (pss_cons (ps_if (pt_cmpR op_isN (pe_fld (pv 0) rfl) pe_non (nomark _)) (pss_one (ps_set (i := 2) sc_Ground_read_number.nd rfl (Or.inl rfl) (qcall ((ok_fraction T).mono (by decide)) hr T.g_fraction pass0 (pa_cons (pv 1) pa_nil)))) (pss_cons (ps_set (i := 2) sc_Ground_read_number.nd rfl (Or.inl rfl) (qcall ((ok_unsigned T).mono (by decide)) hr T.g_unsigned pass0 (pa_cons (pv 1) pa_nil)))
      (pss_one (ps_if (PW.pt (pw_and (pt_cmpR op_notN (pv 2) pe_non (nomark _)) (pw_and1 (pt_cmpR op_ge (pv 2) (pe_fld (pv 0) rfl) (nomark _))))) (pss_one (ps_set (i := 2) sc_Ground_read_number.nd rfl (Or.inl rfl) pe_non)) pss_nil))))
      (pss_cons (ps_if (pt_cmpR op_isN (pv 2) pe_non (nomark _)) (pss_one (L2N.ps_raise rfl (L2N.takes_of rfl rfl rfl rfl) (by exact (qmkN ((ok_BadNumber_init T).mono (by decide : 1 ≤ 1)) T.x_BadNumber (hr.mono (by decide)) pass0 T.g_BadNumber (pa_cons pe_int (pa_cons pe_str pa_nil)))))) pss_nil)
      (pss_one (ps_ret (pv 2))))), ?_⟩
    cases p with
    | none =>
      walk_at "z"
      refine ⟨_, _, _, _, _, rfl, hg, T.c_Ground, T.n_Ground_prime, rfl, ?_⟩
      walk_at "z"
      refine ⟨hx, fun v H1 s1 hv => ?_⟩
      cases hf : frt (tl x) with
      | none =>
        rw [hf] at hv
        obtain rfl : v = .non := hv
        walk_at "z"
        refine ⟨by show 2 ≤ 1000; decide, bn_raise (by decide) ((kb ?_).ex s1)⟩
        show (frt (tl x)).map nfr = none
        rw [hf]
        rfl
      | some q =>
        rw [hf] at hv
        obtain ⟨a, rfl, ha⟩ := hv
        walk_at "z"
        refine kg (nfr q) ?_ _ _ s1 ⟨a, rfl, ha⟩
        show (frt (tl x)).map nfr = _
        rw [hf]
        rfl
    | some p =>
      walk_at "z"
      refine ⟨_, _, _, _, _, rfl, hg, T.c_Ground, T.n_Ground_prime, rfl, ?_⟩
      walk_at "z"
      refine ⟨hx, ?_⟩
      cases hu : uns (tl x) with
      | none =>
        walk_at "z"
        refine ⟨by show 2 ≤ 1000; decide, bn_raise (by decide) (kb ?_)⟩
        show (match uns (tl x) with
          | some n => if (n : Int) < p then some (Nm.r n) else none
          | none => none) = none
        rw [hu]
      | some n =>
        walk_at "z"
        refine ⟨_, _, _, _, _, rfl, hg, T.c_Ground, T.n_Ground_prime, rfl, ?_⟩
        walk_at "z"
        refine ifb (fun e => ?_) (fun e => ?_)
        · have e1 : ¬ (n : Int) < p := by have z : p ≤ (n : Int) := of_decide_eq_true e; omega
          walk_at "z"
          refine ⟨by show 2 ≤ 1000; decide, bn_raise (by decide) (kb ?_)⟩
          show (match uns (tl x) with
            | some n => if (n : Int) < p then some (Nm.r n) else none
            | none => none) = none
          rw [hu]
          exact if_neg e1
        · have e1 : (n : Int) < p := by have z : ¬ p ≤ (n : Int) := of_decide_eq_false e; omega
          walk_at "z"
          refine kg (.r n) ?_ _ _ (Same.refl _) rfl
          show (match uns (tl x) with
            | some n => if (n : Int) < p then some (Nm.r n) else none
            | none => none) = _
          rw [hu]
          exact if_pos e1
end

/-! ### Ground.row, Ground.show_row -/
def RNs (H : Hp) : List V → List Nm → Prop
  | [], [] => True
  | v :: vs, n :: ns => RN H v n ∧ RNs H vs ns
  | _, _ => False
theorem RNs.fix {M : List Addr} {H H' : Hp} : ∀ {vs : List V} {ns : List Nm}, RNs H vs ns → Fix M H H' → RNs H' vs ns
  | [], [], _, _ => trivial
  | _ :: _, _ :: _, ⟨h, t⟩, f => ⟨h.fix f, t.fix f⟩
theorem RNs.ex {H H' : Hp} {vs : List V} {ns : List Nm} (h : RNs H vs ns) (e : Same H H') : RNs H' vs ns := h.fix (M := []) (Fix.of e)
theorem RNs.more {H : Hp} {v : V} {n : Nm} (hn : RN H v n) : ∀ {vs : List V} {ns : List Nm}, RNs H vs ns → RNs H (vs ++ [v]) (ns ++ [n])
  | [], [], _ => ⟨hn, trivial⟩
  | _ :: _, _ :: _, ⟨h, t⟩ => ⟨h, t.more hn⟩
theorem RNs.len {H : Hp} : ∀ {vs : List V} {ns : List Nm}, RNs H vs ns → vs.length = ns.length
  | [], [], _ => rfl
  | _ :: _, _ :: _, ⟨_, t⟩ => congrArg (· + 1) t.len
theorem RNs.get {H : Hp} : ∀ {vs : List V} {ns : List Nm} {i : Nat} {v : V}, RNs H vs ns → vs[i]? = some v → ∃ n, ns[i]? = some n ∧ RN H v n
  | [], [], _, _, _, e => by cases e
  | _ :: _, n :: _, 0, _, ⟨h, _⟩, e => by
    cases e
    exact ⟨n, rfl, h⟩
  | _ :: _, _ :: _, i + 1, _, ⟨_, t⟩, e => t.get (i := i) e
theorem Fix.put {H : Hp} {a : Addr} {xs ys : List V} (h : H a = some (.lst xs)) : Fix [a] H (upd H a (.lst ys)) := fun b o e n => by
  by_cases hb : b = a
  · subst hb
    rw [h] at e
    cases e
    exact absurd rfl (n List.mem_cons_self xs)
  · rw [upd_ne hb]
    exact e
/-- a list that is new here grows: all ahead stands -/
theorem Same.put {H H' : Hp} {a : Addr} {o : HO} (h : H a = none) (e : Same H H') : Same H (upd H' a o) := fun b u hb => by
  rw [upd_ne (ne_of_none hb h)]
  exact e _ _ hb
section
variable {P : Program} {w : World} {K : PySem.W.Frag} {mg : Str → Option Value} {base : Heap}
theorem okH_BadNumber_init (T : Tx K mg) : FkH P w K mg base CX0 1 (He.fAd K d_BadNumber_init.at_) ["self", "at", "why"] (spBN K) := by
  obtain ⟨fd, F⟩ := T.D_BadNumber_init
  refine ⟨fd, funD_okH F sc_BadNumber_init (fun vs H Q E h => ?_) (fun cdv A outer s H vs Q E p hot hr h => ?_), F.bindsN (fun _ _ _ _ _ _ us hl => match us, hl with | [_, _, _], _ => rfl), F.kp⟩
  · obtain ⟨a, n, z, rfl, _⟩ := h
    rfl
  · obtain ⟨a, n, z, rfl, ha, k⟩ := h
    refine ⟨_, PSs.nox (pss_cons (ps_ost (pv 0) pe_str)
      (pss_cons (ps_ost (pv 0) (pv 1))
      (pss_one (ps_ost (pv 0) (pv 2))))), ?_⟩
    walk_at "z"
    refine ⟨_, _, rfl, T.x_BadNumber.c, T.xn_BadNumber_code, .inl ⟨ha, fun d hd nda => ?_⟩⟩
    have h1 : upd (upd H d (exd d [("code", .str "BadNumber")])) a (exo a (He.ga K "BadNumber") (some d)) a = some (exo a (He.ga K "BadNumber") (some d)) := upd_same
    have h2 : upd (upd H d (exd d [("code", .str "BadNumber")])) a (exo a (He.ga K "BadNumber") (some d)) d = some (exd d [("code", .str "BadNumber")]) := by rw [upd_ne nda, upd_same]
    have h3 : ∀ b, b ≠ a → b ≠ d → upd (upd H d (exd d [("code", .str "BadNumber")])) a (exo a (He.ga K "BadNumber") (some d)) b = H b := fun b n1 n2 => by rw [upd_ne n1, upd_ne n2]
    generalize upd (upd H d _) a _ = H1 at *
    walk_at "z"
    refine ⟨_, _, rfl, T.x_BadNumber.c, T.xn_BadNumber_at, .inr ⟨d, _, h1, h2, by decide, ?_⟩⟩
    walk_at "z"
    refine ⟨_, _, rfl, T.x_BadNumber.c, T.xn_BadNumber_why, .inr ⟨d, _, (upd_ne nda.symm).trans h1, upd_same, by show 2 ≤ 900; decide, ?_⟩⟩
    refine k d _ hd nda ?_ upd_same fun b n1 n2 => ?_
    · rw [upd_ne nda.symm, upd_ne nda.symm]
      exact h1
    · rw [upd_ne n2, upd_ne n2]
      exact h3 b n1 n2
def spRow (K : PySem.W.Frag) : Sp := fun vs H Q E => ∃ (g : Addr) (p : Option Int) (x : Str) (ws : List Str), vs = [.ref g, .str x] ∧ GdOk p ∧ GroundAt K H g p ∧ Txt.split x " " = ws ∧ x.length ≤ 1000000 ∧ (∀ y ∈ ws, y.length ≤ 1000000) ∧
  (∀ (i : Nat) y, ws[i]? = some y → rd p (tl y) = none → (∀ j y', j < i → ws[j]? = some y' → rd p (tl y') ≠ none) → Out K i H E) ∧
  (∀ ns, ws.map (fun y => rd p (tl y)) = ns.map some → ∀ a vs H', Same H H' → H a = none → H' a = some (.lst vs) → RNs H' vs ns → Q (.ref a) H')
theorem sc_Ground_row : FnScope ["self", "text", "numbers", "at", "word"] ["self", "text"] (defScope s_Ground_row) := ⟨rfl, rfl, rfl, by decide +kernel, rfl, by decide +kernel, by decide +kernel⟩
theorem ok_Ground_row (T : Tx K mg) : Fk P w K mg base (L2.CX P w) 5 (He.fAd K d_Ground_row.at_) ["self", "text"] [] (spRow K) := by
  obtain ⟨fd, F⟩ := T.D_Ground_row
  refine ⟨fd, [], FunD.ok F sc_Ground_row (fun vs H Q E h => ?_) (fun cdv A outer s H vs Q E hr h => ?_), F.bindsN (fun _ _ _ _ _ _ us hl => match us, hl with | [_, _], _ => rfl), .nil, F.kp⟩
  · obtain ⟨g, p, x, ws, rfl, _⟩ := h
    rfl
  · obtain ⟨g, p, x, ws, rfl, hp, ⟨dx, hg⟩, hs, hx, hy, kb, kg⟩ := h
    refine ⟨_, (pss_cons (ps_set (i := 2) sc_Ground_row.nd rfl (Or.inl rfl) (pe_lst pa_nil))
      (pss_cons (ps_for (passes_of rfl) rfl (pi_enum (by rfl) T.f_enumerate (pa_cons (pe_bm PySem.F.plainAttrs_str PySem.F.slot_str_split PySem.F.type_str_split mt_split (pv 1) (pa_cons pe_str pa_nil)) pa_nil)) (pg_tupK (K := K) (n := 2) rfl (by rfl) (pgs_cons (pg_name (i := 3) sc_Ground_row.nd rfl (Or.inl rfl)) (pgs_cons (pg_name (i := 4) sc_Ground_row.nd rfl (Or.inl rfl)) pgs_nil))) (pss_one (tryOnlyX rfl rfl ⟨by rfl, by decide, .inl T.g_BadNumber⟩ (L2H.passesAt_of rfl) (takes_of rfl rfl rfl rfl)
      (fun W pn xe tk _ po => (by apply psEq; (exact (pss_one (ps_expr (pe_bm PySem.F.plainAttrs_list PySem.F.slot_list_append PySem.F.type_list_append mt_append (pv 2) (pa_cons (qmethS ((ok_Ground_read_number T).mono (by decide)) hr T.c_Ground T.m_Ground_read_number (fun σ => L2N.passAt tk σ) (pv 0) (by exact (pa_cons (pv 4) pa_nil))) pa_nil))))); (first | rfl | dsimp only [Cx.tr, cxOf] | (dsimp only [Cx.tr, cxOf]; rfl))))
      (fun a oe cls d pn hz hf tk hot => (by apply psEq; (exact (pss_one (L2H.ps_raiseHN hot tk (by exact (qmkH ((okH_BadNumber_init T)) T.x_BadNumber (L2H.roomH_mark (hr.mono (by decide)) _) hot pass0 T.g_BadNumber (pa_cons (pv 3) (pa_cons pe_str pa_nil))))))); (first | rfl | dsimp only [Cx.suite, L2H.suiteX, cxOf] | (dsimp only [Cx.suite, L2H.suiteX, cxOf]; rfl)))))))
      (pss_one (ps_ret (pv 2))))), ?_⟩
    walk_at "z"
    refine ⟨by show 0 ≤ sizeLine; decide, fun A0 hA => ?_⟩
    walk_at "z"
    refine ⟨by rw [sizeLine_eq]; omega, fun S hS => ?_⟩
    rw [hs]
    have nSA : S ≠ A0 := fun z => by rw [z, upd_same] at hS; cases hS
    have hS0 : H S = none := by rw [upd_ne nSA] at hS; exact hS
    have s0 : Same H (upd (upd H A0 (.lst [])) S (.lst (ws.map V.str))) := (Same.new hA).trans (Same.new hS)
    have a0 : upd (upd H A0 (.lst [])) S (.lst (ws.map V.str)) A0 = some (.lst []) := by rw [upd_ne nSA.symm, upd_same]
    have l0 : upd (upd H A0 (.lst [])) S (.lst (ws.map V.str)) S = some (.lst (ws.map V.str)) := upd_same
    generalize upd (upd H A0 (.lst [])) S (.lst (ws.map V.str)) = H0 at *
    refine ⟨S, _, rfl, SqL.of' l0, for_enum (xs := ws.map V.str) (fun i σ H1 => ∃ (vs : List V) (ns : List Nm) (v3 v4 : Option V), σ = [some (.ref g), some (.str x), some (.ref A0), v3, v4] ∧ Same H H1 ∧ H1 A0 = some (.lst vs) ∧ H1 S = some (.lst (ws.map V.str)) ∧ RNs H1 vs ns ∧ (ws.take i).map (fun y => rd p (tl y)) = ns.map some)
      ⟨[], [], none, none, rfl, s0, a0, l0, trivial, rfl⟩ ?_ ?_ ?_⟩
    · rintro i σ H1 hi ⟨vs, ns, v3, v4, rfl, s1, a1, l1, r1, e1⟩
      exact SqL.of' l1
    · rintro i z σ H1 D hi ⟨vs, ns, v3, v4, rfl, s1, a1, l1, r1, e1⟩ hD
      rw [List.getElem?_map] at hi
      obtain ⟨y, hy1, rfl⟩ := Option.map_eq_some_iff.mp hi
      have nAD : A0 ≠ D := ne_of_none a1 hD
      have s2 : Same H1 (upd H1 D (.tup [.int (i : Nat), .str y])) := Same.new hD
      refine ⟨D, _, rfl, SqT.of' upd_same, rfl, ?_⟩
      have s3 := s1.trans s2
      have a2 := s2 _ _ a1
      have l2 := s2 _ _ l1
      have r2 := r1.ex s2
      generalize upd H1 D _ = H2 at *
      have hg2 := s3 _ _ hg
      walk_at "z"
      refine ⟨.inl ⟨rfl, _, SqL.of' a2⟩, ?_⟩
      walk_at "z"
      refine ⟨_, _, _, rfl, hg2, rfl, ?_⟩
      walk_at "z"
      refine ⟨g, p, y, rfl, hp, ⟨dx, hg2⟩, hy y (List.mem_of_getElem? hy1), fun e => ?_, fun n e v H3 s4 r => ?_⟩
      · refine fun d H3 z s4 hd hz hx3 => ⟨true, T.x_BadNumber.te, fun _ a ha => ?_, fun z => by cases z⟩
        walk_at "z"
        refine ⟨by show 2 ≤ 1000; decide, bn_raise (by decide) ?_⟩
        refine (kb i y hy1 e fun j y' hj hy' z => ?_).ex (s3.trans s4)
        have hj2 : (ws.take i)[j]? = some y' := by rw [List.getElem?_take, if_pos hj]; exact hy'
        have h1 : ((ws.take i).map (fun y => rd p (tl y)))[j]? = some none := by rw [List.getElem?_map, hj2, Option.map_some, z]
        rw [e1, List.getElem?_map] at h1
        cases h2 : ns[j]? with
        | none => rw [h2] at h1; cases h1
        | some n => rw [h2] at h1; cases h1
      · have a3 := s4 _ _ a2
        walk_at "z"
        refine ⟨_, _, _, rfl, rfl, a3, ?_, ?_⟩
        · have h1 := (r2.ex s4).len
          have h2 := congrArg List.length e1
          rw [List.length_map, List.length_map, List.length_take] at h2
          have h3 := PyProof.Rows.split_le x " "
          rw [hs] at h3
          show vs.length < sizeLine
          rw [sizeLine_eq]
          omega
        · refine ⟨vs ++ [v], ns ++ [n], _, _, rfl, Same.put hA (s3.trans s4), upd_same, ?_, ?_, ?_⟩
          · rw [upd_ne nSA]
            exact s4 _ _ l2
          · exact ((r2.ex s4).more r).fix (Fix.put a3)
          · rw [List.take_succ_eq_append_getElem (List.getElem?_eq_some_iff.mp hy1).1, List.map_append, List.map_append, e1, (List.getElem?_eq_some_iff.mp hy1).2]
            show _ ++ [rd p (tl y)] = _
            rw [e]
            rfl
    · rintro σ H1 ⟨vs, ns, v3, v4, rfl, s1, a1, l1, r1, e1⟩
      walk_at "z"
      rw [List.length_map, List.take_length] at e1
      exact kg ns e1 A0 vs H1 s1 hA a1 r1
end

/-! ### Ground.show_row -/
/-- numbers as they stand in the heap -/
def GNs (p : Option Int) (H : Hp) (ps : List (V × Nm)) : Prop := ∀ q ∈ ps, RN H q.1 q.2 ∧ NOk p q.2 ∧ Sz q.2
theorem GNs.fix {M : List Addr} {p : Option Int} {H H' : Hp} {ps : List (V × Nm)} (h : GNs p H ps) (f : Fix M H H') : GNs p H' ps := fun q hq => ⟨(h q hq).1.fix f, (h q hq).2⟩
theorem GNs.ex {p : Option Int} {H H' : Hp} {ps : List (V × Nm)} (h : GNs p H ps) (e : Same H H') : GNs p H' ps := h.fix (M := []) (Fix.of e)
theorem GNs.sub {p : Option Int} {H : Hp} {ps qs : List (V × Nm)} (h : GNs p H ps) (f : ∀ q ∈ qs, q ∈ ps) : GNs p H qs := fun q hq => h q (f q hq)
theorem GNs.more {p : Option Int} {H : Hp} {ps : List (V × Nm)} {v : V} {n : Nm} (h : GNs p H ps) (r : RN H v n) (ok : NOk p n) (z : Sz n) : GNs p H (ps ++ [(v, n)]) := fun q hq => by
  rcases List.mem_append.mp hq with hq | hq
  · exact h q hq
  · have e : q = (v, n) := by simpa using hq
    subst e
    exact ⟨r, ok, z⟩
theorem GNs.rns {p : Option Int} {H : Hp} : ∀ {ps : List (V × Nm)}, GNs p H ps → RNs H (ps.map (·.1)) (ps.map (·.2))
  | [], _ => trivial
  | q :: ps, h => ⟨(h q List.mem_cons_self).1, GNs.rns (p := p) (ps := ps) fun x hx => h x (List.mem_cons_of_mem _ hx)⟩
theorem sum_le {c : Nat} : ∀ {l : List Nat}, (∀ x ∈ l, x ≤ c) → l.sum ≤ l.length * c
  | [], _ => by simp
  | x :: l, h => by
    have h1 := h x List.mem_cons_self
    have h2 := sum_le (c := c) (l := l) fun y hy => h y (List.mem_cons_of_mem _ hy)
    rw [List.sum_cons, List.length_cons, Nat.add_mul]
    omega
theorem shown_len {p : Option Int} {n : Nm} (hn : NOk p n) (zn : Sz n) (hp : GdOk p) : (shown n).length ≤ 191 := by
  match p, n, hn with
  | none, .q t b, hn =>
    show (if b = 1 then sInt t else sInt t ++ "/" ++ sInt b).length ≤ 191
    split
    · have := sInt_len zn.1
      omega
    · exact slash_len zn.1 zn.2
  | some p, .r a, hn =>
    have h3 := gd_pos hp
    have := sInt_len (small_sz (a := a) hn.1 (by have := hn.2; omega))
    show (sInt a).length ≤ 191
    omega
theorem join_ok {ws : List Str} {c : Nat} (h : ∀ y ∈ ws, y.length ≤ c) (hc : c ≤ 1000) (hl : ws.length ≤ 1000) : (ws.map (·.length)).sum + ws.length * (Str.ofString " ").length ≤ 16777216 := by
  have h1 := sum_le (c := c) (l := ws.map (·.length)) fun x hx => by
    obtain ⟨y, hy, rfl⟩ := List.mem_map.mp hx
    exact h y hy
  rw [List.length_map] at h1
  have h2 : ws.length * c ≤ 1000 * 1000 := Nat.mul_le_mul hl hc
  have h3 : (Str.ofString " ").length = 1 := by decide
  rw [h3]
  omega
section
variable {P : Program} {w : World} {K : PySem.W.Frag} {mg : Str → Option Value} {base : Heap}
def spShowRow (K : PySem.W.Frag) : Sp := fun vs H Q _ => ∃ (g r : Addr) (p : Option Int) (ps : List (V × Nm)), vs = [.ref g, .ref r] ∧ GdOk p ∧ GroundAt K H g p ∧ H r = some (.tup (ps.map (·.1))) ∧ GNs p H ps ∧ ps.length ≤ 1000 ∧
  ∀ H', Same H H' → Q (.str (Txt.join " " (ps.map fun q => shown q.2))) H'
theorem sc_Ground_show_row : FnScope ["self", "row", "number"] ["self", "row"] (defScope s_Ground_show_row) := ⟨rfl, rfl, rfl, by decide +kernel, rfl, by decide +kernel, by decide +kernel⟩
theorem ok_Ground_show_row (T : Tx K mg) : Fk P w K mg base CX0 2 (He.fAd K d_Ground_show_row.at_) ["self", "row"] [] (spShowRow K) := by
  obtain ⟨fd, F⟩ := T.D_Ground_show_row
  refine ⟨fd, [], FunD.ok F sc_Ground_show_row (fun vs H Q E h => ?_) (fun cdv A outer s H vs Q E hr h => ?_), F.bindsN (fun _ _ _ _ _ _ us hl => match us, hl with | [_, _], _ => rfl), .nil, F.kp⟩
  · obtain ⟨g, r, p, ps, rfl, _⟩ := h
    rfl
  · obtain ⟨g, r, p, ps, rfl, hp, hg, hr1, hps, hl, k⟩ := h
    refine ⟨_, PSs.nox (pss_one (ps_ret (pe_bm PySem.F.plainAttrs_str PySem.F.slot_str_join PySem.F.type_str_join mt_join pe_str (pa_cons (pe_lc (own := [("number", 2)]) (by rfl) sc_Ground_show_row.nd (pi_tup (pv 1)) (blkOk_by (N := ["self", "row", "number"]) (own := [("number", 2)]) (sc := defScope s_Ground_show_row) (by decide +kernel)) (fun _ _ _ _ _ => (pg_name (i := 2) sc_Ground_show_row.nd rfl (Or.inl rfl))) (fun _ _ _ _ _ => pts_nil) (fun _ _ _ _ _ => (qmeth ((ok_Ground_show T).mono (by decide)) hr T.c_Ground T.m_Ground_show pass0 (pv 0) (pa_cons (pv 2) pa_nil)))) pa_nil)))), ?_⟩
    walk_at "z"
    refine ⟨⟨_, SqT.of' hr1⟩, fun D hD => ?_⟩
    refine lc_flatT (fun q : V × Nm => q.1) (fun q => V.str (shown q.2)) (fun _ => true) ps hD (SqT.of' hr1) (by omega) (fun x H1 acc Nx hx s1 h1 l1 k1 k2 => ?_) (fun H1 s1 h1 => ?_)
    · obtain ⟨v, n⟩ := x
      obtain ⟨r1, n1, z1⟩ := hps _ hx
      obtain ⟨dx, hg⟩ := hg.ex' s1
      walk_at "z"
      refine ⟨_, _, _, rfl, hg, rfl, ?_⟩
      walk_at "z"
      refine ⟨g, p, v, n, rfl, hp, ⟨dx, hg⟩, n1, z1, r1.ex s1, ?_⟩
      exact ⟨acc, h1, l1, k1 _ rfl (Same.refl _)⟩
    · rw [filt_true] at h1
      walk_at "z"
      refine ⟨_, D, ps.map (fun q => shown q.2), rfl, rfl, .inl (SqL.of' (by rw [h1, List.map_map]; rfl)), ?_, k _ s1⟩
      refine join_ok (c := 191) (fun y hy => ?_) (by decide) (by rw [List.length_map]; exact hl)
      obtain ⟨q, hq, rfl⟩ := List.mem_map.mp hy
      exact shown_len (hps q hq).2.1 (hps q hq).2.2 hp
end

/-! ### the law's asking: _law_number, _law_told, _law_read, _law_row -/
def sw {α : Type} : List α → List α → List α
  | [s], [b, t] => [s, t, b]
  | us, ws => us ++ ws
inductive Rs where
  | nm (n : Nm)
  | bl (b : Bool)
  | er (k : Int)
def erL (k : Int) : List V := [.str "BadNumber", .int k, .bl true]
def RR (H : Hp) (v : V) : Rs → Prop
  | .nm n => RN H v n
  | .bl b => v = .bl b
  | .er k => ∃ a, v = .ref a ∧ H a = some (.lst (erL k))
def numR (p : Option Int) (a b : Int) : Rs := match p with
  | none => if b = 0 then .er 0 else .nm (nnum none a b)
  | some q => if b % q = 0 then .er 0 else .nm (nnum (some q) a b)
theorem numR_bad {p : Option Int} {a b : Int} (h : bad p b) : numR p a b = .er 0 := by
  cases p with
  | none => exact if_pos h
  | some p => exact if_pos h
theorem numR_ok {p : Option Int} {a b : Int} (h : ¬ bad p b) : numR p a b = .nm (nnum p a b) := by
  cases p with
  | none => exact if_neg h
  | some p => exact if_neg h
theorem er_ne {z : Str} (h : z ≠ Str.empty) : decide (V.str z = V.str "") = false := decide_eq_false fun e => h (by injection e)
local macro_rules | `(tactic| walk_at "xf") => `(tactic| (walk_at "z"; refine ⟨_, _, _, rfl, by assumption, rfl, ?_⟩))
/-- what the clause does with the error -/
local macro_rules | `(tactic| walk_at "caught") => `(tactic| (walk_at "xf"; walk_at "xf"; walk_at "xf"; walk_at "z"; refine ⟨_, _, _, _, true, rfl, .ty _, .base (.str _), kit_same, ?_⟩; walk_at "xf"; walk_at "z"; refine ⟨by show 3 ≤ sizeLine; decide, fun q hq => ?_⟩))
local macro_rules | `(tactic| walk_at "er") => `(tactic| (refine fun d H1 z s1 hd hz hx => ⟨true, by assumption, fun _ x hxx => ?_, fun z => by cases z⟩; walk_at "caught"; rw [er_ne hz]))
section
variable {P : Program} {w : World} {K : PySem.W.Frag} {mg : Str → Option Value} {base : Heap}
theorem ok_Ground_numberK (T : Tx K mg) : ∃ fd, FnOk P w K mg base (L2N.CX P w) 3 (He.fAd K d_Ground_number.at_) fd ["self", "top", "bottom"] (spNumber K) ∧ KBn K fd ["self", "top", "bottom"] 1 ["bottom", "top"] sw sw := by
  obtain ⟨fd, F, G⟩ := ok_Ground_numberF (P := P) (w := w) (base := base) T
  obtain ⟨its, kb⟩ := FunD.kbindsD (ps := ["self", "top", "bottom"]) F 1 ["bottom", "top"] (fun us _ ws => sw us ws) (by intro z; cases z) (fun {vs ds zs us its ws} r _ r2 => by
      cases r with
      | nil => exact r2
      | cons r rs =>
        cases rs with
        | nil =>
          cases r2 with
          | nil => exact .cons r .nil
          | cons r2 rs2 =>
            cases rs2 with
            | nil => exact .cons r (.cons r2 .nil)
            | cons r3 rs3 =>
              cases rs3 with
              | nil => exact .cons r (.cons r3 (.cons r2 .nil))
              | cons r4 rs4 => exact .cons r (.cons r2 (.cons r3 (.cons r4 rs4)))
        | cons r' rs' => exact .cons r (.cons r' (Vals.append rs' r2)))
    (fun T kV doc pm an cdv ct us its ws hu hi hw => match us, hu, its, hi, ws, hw with | [_], _, [_], _, [_, _], _ => ⟨_, rfl, rfl⟩)
  exact ⟨fd, G, kb⟩
def spLnum (K : PySem.W.Frag) : Sp := fun vs H Q _ => ∃ (g : Addr) (p : Option Int) (way a b : Int), vs = [.ref g, .int way, .int a, .int b] ∧ GdOk p ∧ GroundAt K H g p ∧ b.natAbs < 2 ^ 2900 ∧ ∀ v H', Same H H' → RR H' v (numR p a b) → Q v H'
theorem sc__law_number : FnScope ["ground", "way", "a", "b", "e"] ["ground", "way", "a", "b"] (defScope s__law_number) := ⟨rfl, rfl, rfl, by decide +kernel, rfl, by decide +kernel, by decide +kernel⟩
theorem ok__law_number (T : Tx K mg) : Fk P w K mg base CX0 4 (He.fAd K d__law_number.at_) ["ground", "way", "a", "b"] [] (spLnum K) := by
  obtain ⟨fd, F⟩ := T.D__law_number
  refine ⟨fd, [], FunD.ok F sc__law_number (fun vs H Q E h => ?_) (fun cdv A outer s H vs Q E hr h => ?_), F.bindsN (fun _ _ _ _ _ _ us hl => match us, hl with | [_, _, _, _], _ => rfl), .nil, F.kp⟩
  · obtain ⟨g, p, way, a, b, rfl, _⟩ := h
    rfl
  · obtain ⟨g, p, way, a, b, rfl, hp, ⟨dx, hg⟩, hb, k⟩ := h
    refine ⟨_, PSs.nox (pss_one (tryAsN (i := 4) rfl rfl sc__law_number.nd rfl rfl ⟨by rfl, by decide, .inl T.g_BadNumber⟩ Lay.takes_noneN
      (fun W pn xe tk po => (by apply psEq; (exact (pss_cons (ps_if (pt_cmpR op_eq (pv 1) pe_int (nomark _)) (pss_one (ps_ret (qmethK (Classical.choose_spec (ok_Ground_numberK T)).1 (Classical.choose_spec (ok_Ground_numberK T)).2 (hr.mono (by decide)) T.c_Ground T.m_Ground_number (fun σ => L2N.passAt tk σ) (pv 0) (pk_cons (pv 3) (pk_cons (pv 2) pk_nil))))) pss_nil)
      (pss_cons (ps_if (PW.pt (pw_and (pt_cmpR op_eq (pv 1) pe_int (nomark _)) (pw_and1 (pt_cmpR op_eq (pv 3) pe_int (nomark _))))) (pss_one (ps_ret (qmethS ((ok_Ground_number1 T).mono (by decide)) hr T.c_Ground T.m_Ground_number (fun σ => L2N.passAt tk σ) (pv 0) (by exact (pa_cons (pv 2) pa_nil))))) pss_nil)
      (pss_one (ps_ret (qmethS ((ok_Ground_number2 T).mono (by decide)) hr T.c_Ground T.m_Ground_number (fun σ => L2N.passAt tk σ) (pv 0) (by exact (pa_cons (pv 2) (pa_cons (pv 3) pa_nil))))))))); (first | rfl | dsimp only [Cx.tr, cxOf] | (dsimp only [Cx.tr, cxOf]; rfl))))
      (fun a oe cls d pn hz hf => (by apply psEq; (exact (pss_one (ps_ret (pe_lst (pa_cons (pe_xf T.x_BadNumber.x T.xn_BadNumber_code hz.zc hf (pv 4)) (pa_cons (pe_xf T.x_BadNumber.x T.xn_BadNumber_at hz.zc hf (pv 4)) (pa_cons (pe_and (pe_callB call_isi (by rfl) T.f_isinstance (by decide +kernel) (pa_cons (pe_xf T.x_BadNumber.x T.xn_BadNumber_why hz.zc hf (pv 4)) (pa_cons (pe_bltn (by rfl) T.f_str (by decide +kernel) (v := .ty "str") rfl) pa_nil))) (pe_one (pe_cmpR op_ne (pe_xf T.x_BadNumber.x T.xn_BadNumber_why hz.zc hf (pv 4)) pe_str (nomark _)))) pa_nil))))))); (first | rfl | dsimp only [Cx.suite, L2H.suiteX, cxOf] | (dsimp only [Cx.suite, L2H.suiteX, cxOf]; rfl)))))), ?_⟩
    walk_at "z"
    have kb : bad p b → ∀ H1 q, Same H H1 → H1 q = none → Q (.ref q) (upd H1 q (.lst (erL 0))) := fun hbad H1 q s1 hq => k _ _ (s1.trans (Same.new hq)) (by rw [numR_bad hbad]; exact ⟨q, rfl, upd_same⟩)
    have kg : ¬ bad p b → ∀ v H1, Same H H1 → RN H1 v (nnum p a b) → Q v H1 := fun hn v H1 s1 r => k v H1 s1 (by rw [numR_ok hn]; exact r)
    have te := T.x_BadNumber.te
    have go : ∀ {E : XK}, (bad p b → Out K 0 H E) → spNumber K [.ref g, .int a, .int b] H Q E := fun {E} h => ⟨g, p, a, b, rfl, hp, ⟨dx, hg⟩, hb, h, kg⟩
    refine ifb (fun e => ?_) (fun e => ?_)
    · walk_at "z"
      refine ⟨_, _, _, rfl, hg, rfl, ?_⟩
      walk_at "z"
      refine go fun hbad => ?_
      walk_at "er"
      exact kb hbad _ _ (by assumption) (by assumption)
    · have last : ∀ {E : XK}, (bad p b → Out K 0 H E) → spNumber K [.ref g, .int a, .int b] H Q E := go
      walk_at "z"
      refine ifb (fun e1 => ?_) (fun e1 => ?_)
      · walk_at "z"
        refine ifb (fun e2 => ?_) (fun e2 => ?_)
        · have eb : b = 1 := by simpa using e2
          subst eb
          walk_at "z"
          refine ⟨_, _, _, rfl, hg, rfl, ?_⟩
          walk_at "z"
          refine go fun hbad => ?_
          walk_at "er"
          exact kb hbad _ _ (by assumption) (by assumption)
        · walk_at "z"
          refine ⟨_, _, _, rfl, hg, rfl, ?_⟩
          walk_at "z"
          refine go fun hbad => ?_
          walk_at "er"
          exact kb hbad _ _ (by assumption) (by assumption)
      · walk_at "z"
        refine ⟨_, _, _, rfl, hg, rfl, ?_⟩
        walk_at "z"
        refine go fun hbad => ?_
        walk_at "er"
        exact kb hbad _ _ (by assumption) (by assumption)
def readR (p : Option Int) (l : List Nat) : Rs := match rd p l with
  | some n => .nm n
  | none => .er 0
def spLread (K : PySem.W.Frag) : Sp := fun vs H Q _ => ∃ (g : Addr) (p : Option Int) (x : Str), vs = [.ref g, .str x] ∧ GdOk p ∧ GroundAt K H g p ∧ x.length ≤ 1000000 ∧ ∀ v H', Same H H' → RR H' v (readR p (tl x)) → Q v H'
theorem sc__law_read : FnScope ["ground", "word", "e"] ["ground", "word"] (defScope s__law_read) := ⟨rfl, rfl, rfl, by decide +kernel, rfl, by decide +kernel, by decide +kernel⟩
theorem ok__law_read (T : Tx K mg) : Fk P w K mg base CX0 5 (He.fAd K d__law_read.at_) ["ground", "word"] [] (spLread K) := by
  obtain ⟨fd, F⟩ := T.D__law_read
  refine ⟨fd, [], FunD.ok F sc__law_read (fun vs H Q E h => ?_) (fun cdv A outer s H vs Q E hr h => ?_), F.bindsN (fun _ _ _ _ _ _ us hl => match us, hl with | [_, _], _ => rfl), .nil, F.kp⟩
  · obtain ⟨g, p, x, rfl, _⟩ := h
    rfl
  · obtain ⟨g, p, x, rfl, hp, ⟨dx, hg⟩, hx, k⟩ := h
    refine ⟨_, PSs.nox (pss_one (tryAsN (i := 2) rfl rfl sc__law_read.nd rfl rfl ⟨by rfl, by decide, .inl T.g_BadNumber⟩ Lay.takes_noneN
      (fun W pn xe tk po => (by apply psEq; (exact (pss_one (ps_ret (qmethS ((ok_Ground_read_number T).mono (by decide)) hr T.c_Ground T.m_Ground_read_number (fun σ => L2N.passAt tk σ) (pv 0) (by exact (pa_cons (pv 1) pa_nil)))))); (first | rfl | dsimp only [Cx.tr, cxOf] | (dsimp only [Cx.tr, cxOf]; rfl))))
      (fun a oe cls d pn hz hf => (by apply psEq; (exact (pss_one (ps_ret (pe_lst (pa_cons (pe_xf T.x_BadNumber.x T.xn_BadNumber_code hz.zc hf (pv 2)) (pa_cons (pe_xf T.x_BadNumber.x T.xn_BadNumber_at hz.zc hf (pv 2)) (pa_cons (pe_and (pe_callB call_isi (by rfl) T.f_isinstance (by decide +kernel) (pa_cons (pe_xf T.x_BadNumber.x T.xn_BadNumber_why hz.zc hf (pv 2)) (pa_cons (pe_bltn (by rfl) T.f_str (by decide +kernel) (v := .ty "str") rfl) pa_nil))) (pe_one (pe_cmpR op_ne (pe_xf T.x_BadNumber.x T.xn_BadNumber_why hz.zc hf (pv 2)) pe_str (nomark _)))) pa_nil))))))); (first | rfl | dsimp only [Cx.suite, L2H.suiteX, cxOf] | (dsimp only [Cx.suite, L2H.suiteX, cxOf]; rfl)))))), ?_⟩
    have te := T.x_BadNumber.te
    walk_at "z"
    refine ⟨_, _, _, rfl, hg, rfl, ?_⟩
    walk_at "z"
    refine ⟨g, p, x, rfl, hp, ⟨dx, hg⟩, hx, fun e => ?_, fun n e v H1 s1 r => k v H1 s1 (by unfold readR; rw [e]; exact r)⟩
    walk_at "er"
    refine k _ _ ((by assumption : Same H _).trans (Same.new (by assumption))) ?_
    unfold readR
    rw [e]
    exact ⟨_, rfl, upd_same⟩
/-- what _law_row tells: an error's list, or 'row' and the list -/
def spLrow (K : PySem.W.Frag) : Sp := fun vs H Q _ => ∃ (g : Addr) (p : Option Int) (x : Str) (ws : List Str), vs = [.ref g, .str x] ∧ GdOk p ∧ GroundAt K H g p ∧ Txt.split x " " = ws ∧ x.length ≤ 1000000 ∧ (∀ y ∈ ws, y.length ≤ 1000000) ∧
  (∀ (i : Nat) y, ws[i]? = some y → rd p (tl y) = none → (∀ j y', j < i → ws[j]? = some y' → rd p (tl y') ≠ none) → ∀ q H', Same H H' → H q = none → H' q = some (.lst (erL i)) → Q (.ref q) H') ∧
  (∀ ns, ws.map (fun y => rd p (tl y)) = ns.map some → ∀ t a vs H', Same H H' → H a = none → H' a = some (.lst vs) → RNs H' vs ns → H' t = some (.tup [.str "row", .ref a]) → Q (.ref t) H')
theorem sc__law_row : FnScope ["ground", "words", "e"] ["ground", "words"] (defScope s__law_row) := ⟨rfl, rfl, rfl, by decide +kernel, rfl, by decide +kernel, by decide +kernel⟩
theorem ok__law_row (T : Tx K mg) : Fk P w K mg base CX0 6 (He.fAd K d__law_row.at_) ["ground", "words"] [] (spLrow K) := by
  obtain ⟨fd, F⟩ := T.D__law_row
  refine ⟨fd, [], FunD.ok F sc__law_row (fun vs H Q E h => ?_) (fun cdv A outer s H vs Q E hr h => ?_), F.bindsN (fun _ _ _ _ _ _ us hl => match us, hl with | [_, _], _ => rfl), .nil, F.kp⟩
  · obtain ⟨g, p, x, ws, rfl, _⟩ := h
    rfl
  · obtain ⟨g, p, x, ws, rfl, hp, ⟨dx, hg⟩, hs, hx, hy, kb, kg⟩ := h
    refine ⟨_, PSs.nox (pss_one (tryAs (i := 2) rfl rfl sc__law_row.nd rfl rfl ⟨by rfl, by decide, .inl T.g_BadNumber⟩ (L2.takes_none5)
      (fun W pn xe tk po => (by apply psEq; (exact (pss_one (ps_ret (pe_tup (pa_cons pe_str (pa_cons (qmethS ((ok_Ground_row T).mono (by decide)) hr T.c_Ground T.m_Ground_row (fun σ => L2.passAt tk σ) (pv 0) (by exact (pa_cons (pv 1) pa_nil))) pa_nil)))))); (first | rfl | dsimp only [Cx.tr, cxOf] | (dsimp only [Cx.tr, cxOf]; rfl))))
      (fun a oe cls d pn hz hf => (by apply psEq; (exact (pss_one (ps_ret (pe_lst (pa_cons (pe_xf T.x_BadNumber.x T.xn_BadNumber_code hz hf (pv 2)) (pa_cons (pe_xf T.x_BadNumber.x T.xn_BadNumber_at hz hf (pv 2)) (pa_cons (pe_and (pe_callB call_isi (by rfl) T.f_isinstance (by decide +kernel) (pa_cons (pe_xf T.x_BadNumber.x T.xn_BadNumber_why hz hf (pv 2)) (pa_cons (pe_bltn (by rfl) T.f_str (by decide +kernel) (v := .ty "str") rfl) pa_nil))) (pe_one (pe_cmpR op_ne (pe_xf T.x_BadNumber.x T.xn_BadNumber_why hz hf (pv 2)) pe_str (nomark _)))) pa_nil))))))); (first | rfl | dsimp only [Cx.suite, L2H.suiteX, cxOf] | (dsimp only [Cx.suite, L2H.suiteX, cxOf]; rfl)))))), ?_⟩
    have te := T.x_BadNumber.te
    walk_at "z"
    refine ⟨_, _, _, rfl, hg, rfl, ?_⟩
    walk_at "z"
    refine ⟨g, p, x, ws, rfl, hp, ⟨dx, hg⟩, hs, hx, hy, fun i y h1 h2 h3 => ?_, fun ns e a vs H1 s1 ha h1 r => ?_⟩
    · walk_at "er"
      have f := (by assumption : Same H _)
      exact kb i y h1 h2 h3 _ _ (f.trans (Same.new (by assumption))) (f.free (by assumption)) upd_same
    · walk_at "z"
      refine ⟨by show 2 ≤ sizeLine; decide, fun q hq => ?_⟩
      have s2 : Same H1 (upd H1 q (.tup [.str "row", .ref a])) := Same.new hq
      exact kg ns e q a vs _ (s1.trans s2) ha (s2 _ _ h1) (r.ex s2) upd_same
def nzB : Nm → Bool
  | .r a => a == 0
  | .q a _ => a == 0
theorem nzB_iff (n : Nm) : nzB n = true ↔ nzero n := by
  cases n with
  | r a => exact beq_iff_eq
  | q a b => exact beq_iff_eq
def worked (p : Option Int) (deed : Int) (n m : Nm) : Rs := if deed = 0 then .nm (nadd p n m) else if deed = 1 then .nm (nsub p n m) else if deed = 2 then .nm (nmul p n m) else if deed = 3 then (if nzB m = true then .er 1 else .nm (nmul p n (ninv p m))) else .bl (nless n m)
def spTold (K : PySem.W.Frag) : Sp := fun vs H Q _ => ∃ (g : Addr) (p : Option Int) (deed : Int) (v u : V) (n m : Nm), vs = [.ref g, .int deed, v, u] ∧ GdOk p ∧ GroundAt K H g p ∧ NOk p n ∧ NOk p m ∧ Sz n ∧ Sz m ∧ RN H v n ∧ RN H u m ∧
  ∀ v H', Same H H' → RR H' v (worked p deed n m) → Q v H'
theorem sc__law_told : FnScope ["ground", "deed", "x", "y", "e"] ["ground", "deed", "x", "y"] (defScope s__law_told) := ⟨rfl, rfl, rfl, by decide +kernel, rfl, by decide +kernel, by decide +kernel⟩
theorem ok__law_told (T : Tx K mg) : Fk P w K mg base CX0 5 (He.fAd K d__law_told.at_) ["ground", "deed", "x", "y"] [] (spTold K) := by
  obtain ⟨fd, F⟩ := T.D__law_told
  refine ⟨fd, [], FunD.ok F sc__law_told (fun vs H Q E h => ?_) (fun cdv A outer s H vs Q E hr h => ?_), F.bindsN (fun _ _ _ _ _ _ us hl => match us, hl with | [_, _, _, _], _ => rfl), .nil, F.kp⟩
  · obtain ⟨g, p, deed, v, u, n, m, rfl, _⟩ := h
    rfl
  · obtain ⟨g, p, deed, v, u, n, m, rfl, hp, ⟨dx, hg⟩, hn, hm, zn, zm, hv, hu, k⟩ := h
    refine ⟨_, PSs.nox (pss_one (tryAsN (i := 4) rfl rfl sc__law_told.nd rfl rfl ⟨by rfl, by decide, .inl T.g_BadNumber⟩ Lay.takes_noneN
      (fun W pn xe tk po => (by apply psEq; (exact (pss_cons (ps_if (pt_cmpR op_eq (pv 1) pe_int (nomark _)) (pss_one (ps_ret (qmeth ((ok_Ground_add T).mono (by decide)) hr T.c_Ground T.m_Ground_add pass0 (pv 0) (pa_cons (pv 2) (pa_cons (pv 3) pa_nil))))) pss_nil)
      (pss_cons (ps_if (pt_cmpR op_eq (pv 1) pe_int (nomark _)) (pss_one (ps_ret (qmeth ((ok_Ground_sub T).mono (by decide)) hr T.c_Ground T.m_Ground_sub pass0 (pv 0) (pa_cons (pv 2) (pa_cons (pv 3) pa_nil))))) pss_nil)
      (pss_cons (ps_if (pt_cmpR op_eq (pv 1) pe_int (nomark _)) (pss_one (ps_ret (qmeth ((ok_Ground_mul T).mono (by decide)) hr T.c_Ground T.m_Ground_mul pass0 (pv 0) (pa_cons (pv 2) (pa_cons (pv 3) pa_nil))))) pss_nil)
      (pss_cons (ps_if (pt_cmpR op_eq (pv 1) pe_int (nomark _)) (pss_one (ps_ret (qmethS ((ok_Ground_div T).mono (by decide)) hr T.c_Ground T.m_Ground_div (fun σ => L2N.passAt tk σ) (pv 0) (by exact (pa_cons (pv 2) (pa_cons (pv 3) pa_nil)))))) pss_nil)
      (pss_one (ps_ret (qmeth ((ok_Ground_less T).mono (by decide)) hr T.c_Ground T.m_Ground_less pass0 (pv 0) (pa_cons (pv 2) (pa_cons (pv 3) pa_nil)))))))))); (first | rfl | dsimp only [Cx.tr, cxOf] | (dsimp only [Cx.tr, cxOf]; rfl))))
      (fun a oe cls d pn hz hf => (by apply psEq; (exact (pss_one (ps_ret (pe_lst (pa_cons (pe_xf T.x_BadNumber.x T.xn_BadNumber_code hz.zc hf (pv 4)) (pa_cons (pe_xf T.x_BadNumber.x T.xn_BadNumber_at hz.zc hf (pv 4)) (pa_cons (pe_and (pe_callB call_isi (by rfl) T.f_isinstance (by decide +kernel) (pa_cons (pe_xf T.x_BadNumber.x T.xn_BadNumber_why hz.zc hf (pv 4)) (pa_cons (pe_bltn (by rfl) T.f_str (by decide +kernel) (v := .ty "str") rfl) pa_nil))) (pe_one (pe_cmpR op_ne (pe_xf T.x_BadNumber.x T.xn_BadNumber_why hz.zc hf (pv 4)) pe_str (nomark _)))) pa_nil))))))); (first | rfl | dsimp only [Cx.suite, L2H.suiteX, cxOf] | (dsimp only [Cx.suite, L2H.suiteX, cxOf]; rfl)))))), ?_⟩
    have te := T.x_BadNumber.te
    walk_at "z"
    refine ifb (fun e => ?_) (fun e => ?_)
    · have d0 : deed = 0 := by simpa using e
      walk_at "z"
      refine ⟨_, _, _, rfl, hg, rfl, ?_⟩
      walk_at "z"
      refine ⟨g, p, v, u, n, m, rfl, hp, ⟨dx, hg⟩, hn, hm, zn, zm, hv, hu, fun v H1 s1 r => k v H1 s1 ?_⟩
      unfold worked
      rw [if_pos d0]
      exact r
    have d0 : deed ≠ 0 := by simpa using e
    walk_at "z"
    refine ifb (fun e => ?_) (fun e => ?_)
    · have d1 : deed = 1 := by simpa using e
      walk_at "z"
      refine ⟨_, _, _, rfl, hg, rfl, ?_⟩
      walk_at "z"
      refine ⟨g, p, v, u, n, m, rfl, hp, ⟨dx, hg⟩, hn, hm, zn, zm, hv, hu, fun v H1 s1 r => k v H1 s1 ?_⟩
      unfold worked
      rw [if_neg d0, if_pos d1]
      exact r
    have d1 : deed ≠ 1 := by simpa using e
    walk_at "z"
    refine ifb (fun e => ?_) (fun e => ?_)
    · have d2 : deed = 2 := by simpa using e
      walk_at "z"
      refine ⟨_, _, _, rfl, hg, rfl, ?_⟩
      walk_at "z"
      refine ⟨g, p, v, u, n, m, rfl, hp, ⟨dx, hg⟩, hn, hm, zn, zm, hv, hu, fun v H1 s1 r => k v H1 s1 ?_⟩
      unfold worked
      rw [if_neg d0, if_neg d1, if_pos d2]
      exact r
    have d2 : deed ≠ 2 := by simpa using e
    walk_at "z"
    refine ifb (fun e => ?_) (fun e => ?_)
    · have d3 : deed = 3 := by simpa using e
      have ew : worked p deed n m = if nzB m = true then .er 1 else .nm (nmul p n (ninv p m)) := by
        unfold worked
        rw [if_neg d0, if_neg d1, if_neg d2, if_pos d3]
      rw [ew] at k
      walk_at "z"
      refine ⟨_, _, _, rfl, hg, rfl, ?_⟩
      walk_at "z"
      refine ⟨g, p, v, u, n, m, rfl, hp, ⟨dx, hg⟩, hn, hm, zn, zm, hv, hu, fun z0 => ?_, fun z0 v H1 s1 r => k v H1 s1 ?_⟩
      · rw [if_pos ((nzB_iff m).mpr z0)] at k
        walk_at "er"
        exact k _ _ ((by assumption : Same H _).trans (Same.new (by assumption))) ⟨_, rfl, upd_same⟩
      · rw [if_neg fun z => z0 ((nzB_iff m).mp z)]
        exact r
    · have d3 : deed ≠ 3 := by simpa using e
      walk_at "z"
      refine ⟨_, _, _, rfl, hg, rfl, ?_⟩
      walk_at "z"
      refine ⟨g, p, v, u, n, m, rfl, hp, ⟨dx, hg⟩, hn, hm, zn, zm, hv, hu, k _ _ (Same.refl _) ?_⟩
      unfold worked
      rw [if_neg d0, if_neg d1, if_neg d2, if_neg d3]
      rfl
end

/-! ### _law_worked -/
theorem nok_frac {a b : Int} (hb : b ≠ 0) : NOk none (nfr (frac a b)) := frac_low hb
theorem nok_num {p : Option Int} {a : Int} (hp : GdOk p) : NOk p (num p a) := by
  cases p with
  | none => exact ⟨by decide, Int.gcd_one_right a⟩
  | some p =>
    have := gd_pos hp
    exact ⟨Int.emod_nonneg _ (by omega), Int.emod_lt_of_pos _ (by omega)⟩
theorem nok_add {p : Option Int} {n m : Nm} (hp : GdOk p) (hn : NOk p n) (hm : NOk p m) : NOk p (nadd p n m) := by
  match p, n, m, hn, hm with
  | none, .q t b, .q c d, hn, hm => exact nok_frac (Int.mul_ne_zero (low_ne hn) (low_ne hm))
  | some p, .r a, .r b, hn, hm =>
    have := gd_pos hp
    exact ⟨Int.emod_nonneg _ (by omega), Int.emod_lt_of_pos _ (by omega)⟩
theorem nok_mul {p : Option Int} {n m : Nm} (hp : GdOk p) (hn : NOk p n) (hm : NOk p m) : NOk p (nmul p n m) := by
  match p, n, m, hn, hm with
  | none, .q t b, .q c d, hn, hm => exact nok_frac (Int.mul_ne_zero (low_ne hn) (low_ne hm))
  | some p, .r a, .r b, hn, hm =>
    have := gd_pos hp
    exact ⟨Int.emod_nonneg _ (by omega), Int.emod_lt_of_pos _ (by omega)⟩
theorem nok_neg {p : Option Int} {n : Nm} (hp : GdOk p) (hn : NOk p n) : NOk p (nneg p n) := by
  match p, n, hn with
  | none, .q t b, hn => exact ⟨hn.1, by rw [Int.neg_gcd]; exact hn.2⟩
  | some p, .r a, hn =>
    have := gd_pos hp
    exact ⟨Int.emod_nonneg _ (by omega), Int.emod_lt_of_pos _ (by omega)⟩
theorem sz_neg {p : Option Int} {n : Nm} (hn : NOk p n) (zn : Sz n) : Sz (nneg p n) := by
  match p, n, hn with
  | none, .q t b, _ => exact ⟨by rw [Int.natAbs_neg]; exact zn.1, zn.2⟩
  | some p, .r a, _ => exact trivial
theorem nok_inv {p : Option Int} {n : Nm} (hp : GdOk p) (hn : NOk p n) (h0 : ¬ nzero n) : NOk p (ninv p n) := by
  match p, n, hn with
  | none, .q t b, hn => exact nok_frac h0
  | some p, .r a, hn =>
    obtain ⟨k, rfl, pm, k3, k4⟩ := hp
    have hb : a % (k : Int) = a := Int.emod_eq_of_lt hn.1 hn.2
    obtain ⟨i0, i1, _⟩ := pinv_ok pm k4 (b := a) (by rw [hb]; exact h0)
    rw [hb] at i0 i1
    exact ⟨i0, i1⟩
theorem sz_inv {p : Option Int} {n : Nm} (hn : NOk p n) (zn : Sz n) (h0 : ¬ nzero n) : Sz (ninv p n) := by
  match p, n, hn with
  | none, .q t b, _ =>
    have := frac_size (a := b) (b := t) h0
    exact ⟨Nat.lt_of_le_of_lt this.1 zn.2, Nat.lt_of_le_of_lt this.2 zn.1⟩
  | some p, .r a, _ => exact trivial
theorem num0 {p : Option Int} : num p 0 = nnum p 0 1 := by
  rw [nnum01]
  cases p with
  | none => rfl
  | some p =>
    show Nm.r (0 % p) = .r 0
    rw [Int.zero_emod]
section
variable {P : Program} {w : World} {K : PySem.W.Frag} {mg : Str → Option Value} {base : Heap}
def spWorked : Sp := fun vs H Q _ => ∃ (p : Option Int) (deed : Int) (v u : V) (n m : Nm), vs = [pV p, .int deed, v, u] ∧ GdOk p ∧ NOk p n ∧ NOk p m ∧ Sz n ∧ Sz m ∧ RN H v n ∧ RN H u m ∧ ∀ v H', Same H H' → RR H' v (worked p deed n m) → Q v H'
theorem sc__law_worked : FnScope ["p", "deed", "x", "y"] ["p", "deed", "x", "y"] (defScope s__law_worked) := ⟨rfl, rfl, rfl, by decide +kernel, rfl, by decide +kernel, by decide +kernel⟩
theorem ok__law_worked (T : Tx K mg) : Fk P w K mg base CX0 4 (He.fAd K d__law_worked.at_) ["p", "deed", "x", "y"] [] spWorked := by
  obtain ⟨fd, F⟩ := T.D__law_worked
  refine ⟨fd, [], FunD.ok F sc__law_worked (fun vs H Q E h => ?_) (fun cdv A outer s H vs Q E hr h => ?_), F.bindsN (fun _ _ _ _ _ _ us hl => match us, hl with | [_, _, _, _], _ => rfl), .nil, F.kp⟩
  · obtain ⟨p, deed, v, u, n, m, rfl, _⟩ := h
    rfl
  · obtain ⟨p, deed, v, u, n, m, rfl, hp, hn, hm, zn, zm, hv, hu, k⟩ := h
    refine ⟨_, PSs.nox (pss_cons (ps_if (pt_cmpR op_eq (pv 1) pe_int (nomark _)) (pss_one (ps_ret (qcall ((ok__law_add T).mono (by decide)) hr T.g__law_add pass0 (pa_cons (pv 0) (pa_cons (pv 2) (pa_cons (pv 3) pa_nil)))))) pss_nil)
      (pss_cons (ps_if (pt_cmpR op_eq (pv 1) pe_int (nomark _)) (pss_one (ps_ret (qcall ((ok__law_add T).mono (by decide)) hr T.g__law_add pass0 (pa_cons (pv 0) (pa_cons (pv 2) (pa_cons (qcall ((ok__law_neg T).mono (by decide)) hr T.g__law_neg pass0 (pa_cons (pv 0) (pa_cons (pv 3) pa_nil))) pa_nil)))))) pss_nil)
      (pss_cons (ps_if (pt_cmpR op_eq (pv 1) pe_int (nomark _)) (pss_one (ps_ret (qcall ((ok__law_mul T).mono (by decide)) hr T.g__law_mul pass0 (pa_cons (pv 0) (pa_cons (pv 2) (pa_cons (pv 3) pa_nil)))))) pss_nil)
      (pss_cons (ps_if (pt_cmpR op_eq (pv 1) pe_int (nomark _)) (pss_cons (ps_if (pt_cmpR (op_eqD hr.units) (pv 3) (qcall ((ok__law_num T).mono (by decide)) hr T.g__law_num pass0 (pa_cons (pv 0) (pa_cons pe_int pa_nil))) (nomark _)) (pss_one (ps_ret (pe_lst (pa_cons pe_str (pa_cons pe_int (pa_cons pe_bl pa_nil)))))) pss_nil)
      (pss_one (ps_ret (qcall ((ok__law_mul T).mono (by decide)) hr T.g__law_mul pass0 (pa_cons (pv 0) (pa_cons (pv 2) (pa_cons (qcall ((ok__law_inv T).mono (by decide)) hr T.g__law_inv pass0 (pa_cons (pv 0) (pa_cons (pv 3) pa_nil))) pa_nil))))))) pss_nil)
      (pss_cons (ps_if (pt_cmpR op_isN (pv 0) pe_non (nomark _)) (pss_one (ps_ret (pe_cmpR op_lt (pe_op op_mulW (pe_ix ix_tup (pv 2) pe_int (fun _ _ => rfl)) (pe_ix ix_tup (pv 3) pe_int (fun _ _ => rfl))) (pe_op op_mulW (pe_ix ix_tup (pv 3) pe_int (fun _ _ => rfl)) (pe_ix ix_tup (pv 2) pe_int (fun _ _ => rfl))) (nomark _)))) pss_nil)
      (pss_one (ps_ret (pe_cmpR op_lt (pv 2) (pv 3) (nomark _))))))))), ?_⟩
    walk_at "z"
    refine ifb (fun e => ?_) (fun e => ?_)
    · have d0 : deed = 0 := by simpa using e
      walk_at "z"
      refine ⟨p, v, u, n, m, rfl, hp, hn, hm, zn, zm, hv, hu, fun v H1 s1 r => k v H1 s1 ?_⟩
      unfold worked
      rw [if_pos d0]
      exact r
    have d0 : deed ≠ 0 := by simpa using e
    walk_at "z"
    refine ifb (fun e => ?_) (fun e => ?_)
    · have d1 : deed = 1 := by simpa using e
      walk_at "z"
      refine ⟨p, u, m, rfl, hp, hm, hu, fun v1 H1 s1 r1 => ?_⟩
      walk_at "z"
      refine ⟨p, v, v1, n, _, rfl, hp, hn, nok_neg hp hm, zn, sz_neg hm zm, hv.ex s1, r1, fun v H2 s2 r => k v H2 (s1.trans s2) ?_⟩
      unfold worked
      rw [if_neg d0, if_pos d1]
      exact r
    have d1 : deed ≠ 1 := by simpa using e
    walk_at "z"
    refine ifb (fun e => ?_) (fun e => ?_)
    · have d2 : deed = 2 := by simpa using e
      walk_at "z"
      refine ⟨p, v, u, n, m, rfl, hp, hn, hm, zn, zm, hv, hu, fun v H1 s1 r => k v H1 s1 ?_⟩
      unfold worked
      rw [if_neg d0, if_neg d1, if_pos d2]
      exact r
    have d2 : deed ≠ 2 := by simpa using e
    walk_at "z"
    refine ifb (fun e => ?_) (fun e => ?_)
    · have d3 : deed = 3 := by simpa using e
      have ew : worked p deed n m = if nzB m = true then .er 1 else .nm (nmul p n (ninv p m)) := by
        unfold worked
        rw [if_neg d0, if_neg d1, if_neg d2, if_pos d3]
      rw [ew] at k
      walk_at "z"
      refine ⟨hp, fun z0 H1 s1 r0 => ?_⟩
      rw [num0] at r0
      have hu1 := hu.ex s1
      refine ⟨_, _, hu1.dp, r0.dp, shaped_pyN _, shaped_pyN _, ?_⟩
      walk_at "z"
      refine ifb (fun e => ?_) (fun e => ?_)
      · have e1 := (eqv_zero hm).mp e
        rw [if_pos ((nzB_iff m).mpr e1)] at k
        walk_at "z"
        refine ⟨by show 3 ≤ sizeLine; decide, fun q hq => k _ _ (s1.trans (Same.new hq)) ⟨q, rfl, upd_same⟩⟩
      · have e1 : ¬ nzero m := fun z => by
          rw [(eqv_zero hm).mpr z] at e
          cases e
        rw [if_neg fun z => e1 ((nzB_iff m).mp z)] at k
        walk_at "z"
        refine ⟨p, u, m, rfl, hp, hm, zm, e1, hu1, fun v1 H2 s2 r1 => ?_⟩
        walk_at "z"
        exact ⟨p, v, v1, n, _, rfl, hp, hn, nok_inv hp hm e1, zn, sz_inv hm zm e1, hv.ex (s1.trans s2), r1, fun v H3 s3 r => k v H3 ((s1.trans s2).trans s3) r⟩
    · have d3 : deed ≠ 3 := by simpa using e
      have ew : worked p deed n m = .bl (nless n m) := by
        unfold worked
        rw [if_neg d0, if_neg d1, if_neg d2, if_neg d3]
      rw [ew] at k
      match p, n, m, hn, hm with
      | none, .q t b, .q c d, hn, hm =>
        obtain ⟨a, rfl, ha⟩ := hv
        obtain ⟨e, rfl, he⟩ := hu
        walk_at "ti"
        walk_at "ti"
        refine ⟨_, _, rfl, rfl, mul_w zn.1 zm.2, ?_⟩
        walk_at "ti"
        walk_at "ti"
        refine ⟨_, _, rfl, rfl, mul_w zm.1 zn.2, ?_⟩
        exact ⟨_, _, rfl, rfl, k _ _ (Same.refl _) rfl⟩
      | some p, .r a, .r b, hn, hm =>
        obtain rfl : v = .int a := hv
        obtain rfl : u = .int b := hu
        walk_at "z"
        exact k _ _ (Same.refl _) rfl
end

/-! ### shown numbers are read back -/
theorem num_ge {n c : Nat} (h : c ∈ numL n) : 48 ≤ c ∧ c ≤ 57 := numL_digits n c h
theorem not_num {n c : Nat} (h : c < 48) : c ∉ numL n := fun z => by
  have := num_ge z
  omega
theorem not_sInt {n : Int} {c : Nat} (h : c < 48) (h2 : c ≠ 45) : c ∉ tl (sInt n) := fun z => by
  rw [tl_sInt] at z
  split at z
  · rcases List.mem_cons.mp z with z | z
    · exact h2 z
    · exact not_num h z
  · exact not_num h z
theorem sgn_num (n : Nat) : sgn (numL n) = (uns (numL n)).map Int.ofNat := by
  unfold sgn
  split
  · rename_i r e
    exact absurd (show 45 ∈ numL n by rw [e]; exact List.mem_cons_self) (not_num (by decide))
  · rfl
theorem sgn_sInt {t : Int} (h : dl t.natAbs ≤ 60) : sgn (tl (sInt t)) = some t := by
  rw [tl_sInt]
  split
  · rename_i h0
    show (match uns (numL t.natAbs) with
      | some (n + 1) => some (-((n + 1 : Nat) : Int))
      | _ => none) = some t
    rw [uns_num h]
    cases e : t.natAbs with
    | zero => omega
    | succ n =>
      show some (-((n + 1 : Nat) : Int)) = some t
      congr 1
      omega
  · rename_i h0
    rw [sgn_num, uns_num h]
    show some (Int.ofNat t.natAbs) = some t
    congr 1
    show ((t.natAbs : Nat) : Int) = t
    omega
theorem sgn_long {t : Int} (h : 60 < dl t.natAbs) : sgn (tl (sInt t)) = none := by
  rw [tl_sInt]
  split
  · show (match uns (numL t.natAbs) with
      | some (n + 1) => some (-((n + 1 : Nat) : Int))
      | _ => none) = none
    rw [uns_long h]
  · rw [sgn_num, uns_long h]
    rfl
theorem take47 {a b : List Nat} (h : 47 ∉ a) : (a ++ 47 :: b).takeWhile (· != 47) = a ∧ ((a ++ 47 :: b).dropWhile (· != 47)).drop 1 = b := by
  induction a with
  | nil => exact ⟨by simp, by simp⟩
  | cons c a ih =>
    have hc : (c != 47) = true := by
      have : c ≠ 47 := fun z => h (by rw [z]; exact List.mem_cons_self)
      simp [this]
    obtain ⟨i1, i2⟩ := ih fun z => h (List.mem_cons_of_mem _ z)
    refine ⟨?_, ?_⟩
    · rw [List.cons_append, List.takeWhile_cons, if_pos hc, i1]
    · rw [List.cons_append, List.dropWhile_cons, if_pos hc, i2]
theorem frt_slash {a b : List Nat} (h : 47 ∉ a) : frt (a ++ 47 :: b) = (match sgn a, uns b with
    | some t, some c => if c < 2 ∨ Int.gcd t c ≠ 1 then none else some (t, (c : Int))
    | _, _ => none) := by
  unfold frt
  rw [if_pos (by simp), (take47 h).1, (take47 h).2]
  all_goals (cases sgn a <;> cases uns b <;> rfl)
theorem tl_frac {t b : Int} (hb : 0 < b) : tl (sInt t ++ "/" ++ sInt b) = tl (sInt t) ++ 47 :: numL b.natAbs := by
  rw [tl_append, tl_append, tl_sInt_nn (n := b) (by omega), List.append_assoc]
  rfl
theorem one_digit : dl 1 = 1 := by decide
theorem dl_pos (n : Nat) : 1 ≤ dl n := by
  have := numL_ne n
  unfold dl
  cases e : numL n with
  | nil => exact absurd e this
  | cons c r => simp
theorem read_back {p : Option Int} {n : Nm} (hp : GdOk p) (hn : NOk p n) : rd p (tl (shown n)) = if dg n ≤ 60 then some n else none := by
  match p, n, hn with
  | some p, .r a, hn =>
    have h3 := gd_pos hp
    have e : tl (shown (.r a)) = numL a.natAbs := tl_sInt_nn hn.1
    have h1 : dl a.natAbs ≤ 60 := Nat.le_trans (dl_le (k := 5) (by decide) (by have := hn.1; have := hn.2; omega)) (by decide)
    rw [e, if_pos (by show (1 : Nat) ≤ 60; decide)]
    show (match uns (numL a.natAbs) with
      | some n => if (n : Int) < p then some (Nm.r n) else none
      | none => none) = _
    rw [uns_num h1]
    have ea : ((a.natAbs : Nat) : Int) = a := by have := hn.1; omega
    show (if ((a.natAbs : Nat) : Int) < p then some (Nm.r ((a.natAbs : Nat) : Int)) else none) = some (.r a)
    rw [ea, if_pos hn.2]
  | none, .q t b, hn =>
    have b0 := hn.1
    have d1 : dg (.q t b) = max (dl t.natAbs) (dl b.natAbs) := rfl
    by_cases e1 : b = 1
    · subst e1
      have e : tl (shown (.q t 1)) = tl (sInt t) := by
        show tl (if (1 : Int) = 1 then sInt t else sInt t ++ "/" ++ sInt 1) = _
        rw [if_pos rfl]
      have h47 : 47 ∉ tl (sInt t) := not_sInt (by decide) (by decide)
      have hd : dg (.q t 1) ≤ 60 ↔ dl t.natAbs ≤ 60 := by
        rw [d1]
        show max (dl t.natAbs) (dl 1) ≤ 60 ↔ _
        rw [one_digit]
        omega
      show (frt (tl (shown (.q t 1)))).map nfr = _
      rw [e]
      unfold frt
      rw [if_neg h47]
      by_cases h : dl t.natAbs ≤ 60
      · rw [if_pos (hd.mpr h), sgn_sInt h]
        rfl
      · rw [if_neg fun z => h (hd.mp z), sgn_long (by omega)]
        rfl
    · have e : tl (shown (.q t b)) = tl (sInt t) ++ 47 :: numL b.natAbs := by
        show tl (if b = 1 then sInt t else sInt t ++ "/" ++ sInt b) = _
        rw [if_neg e1, tl_frac b0]
      have h47 : 47 ∉ tl (sInt t) := not_sInt (by decide) (by decide)
      show (frt (tl (shown (.q t b)))).map nfr = _
      rw [e, frt_slash h47]
      by_cases h : dl t.natAbs ≤ 60
      · by_cases h2 : dl b.natAbs ≤ 60
        · have eb : ((b.natAbs : Nat) : Int) = b := by omega
          rw [if_pos (by rw [d1]; omega), sgn_sInt h, uns_num h2]
          show (if b.natAbs < 2 ∨ Int.gcd t ((b.natAbs : Nat) : Int) ≠ 1 then none else some (t, ((b.natAbs : Nat) : Int))).map nfr = _
          rw [eb, if_neg (by
            have := hn.2
            intro z
            rcases z with z | z
            · omega
            · exact z this)]
          rfl
        · rw [if_neg (by rw [d1]; omega), sgn_sInt h, uns_long (by omega)]
          rfl
      · rw [if_neg (by rw [d1]; omega), sgn_long (by omega)]
        rfl
theorem no_space {p : Option Int} {n : Nm} (hn : NOk p n) : 32 ∉ tl (shown n) := by
  match p, n, hn with
  | some p, .r a, hn => exact not_sInt (by decide) (by decide)
  | none, .q t b, hn =>
    show 32 ∉ tl (if b = 1 then sInt t else sInt t ++ "/" ++ sInt b)
    split
    · exact not_sInt (by decide) (by decide)
    · rw [tl_frac hn.1]
      intro z
      rcases List.mem_append.mp z with z | z
      · exact not_sInt (by decide) (by decide) z
      · rcases List.mem_cons.mp z with z | z
        · cases z
        · exact not_num (by decide) z
theorem split_sp {ws : List Str} (h0 : ws ≠ []) (h : ∀ y ∈ ws, 32 ∉ tl y) : Txt.split (Txt.join " " ws) " " = ws := split_join (y := " ") (s := 32) (S := []) rfl (by decide +kernel) h0 h
theorem joinL_len {c : Nat} : ∀ {ps : List (List Nat)}, (∀ p ∈ ps, p.length ≤ c) → (joinL [32] ps).length ≤ ps.length * (c + 1)
  | [], _ => Nat.zero_le _
  | [x], h => by
    have := h x List.mem_cons_self
    show x.length ≤ 1 * (c + 1)
    omega
  | x :: z :: r, h => by
    have h1 := h x List.mem_cons_self
    have h2 := joinL_len (ps := z :: r) fun p hp => h p (List.mem_cons_of_mem _ hp)
    show (x ++ ([32] ++ joinL [32] (z :: r))).length ≤ (r.length + 1 + 1) * (c + 1)
    rw [List.length_append, List.length_append, Nat.add_mul]
    have h3 : (z :: r).length = r.length + 1 := rfl
    rw [h3] at h2
    show x.length + (1 + _) ≤ _
    omega
theorem join_len {ws : List Str} {c : Nat} (h : ∀ y ∈ ws, y.length ≤ c) : (Txt.join " " ws).length ≤ ws.length * (c + 1) := by
  rw [len_tl, join_eq, tl_join]
  have e := joinL_len (c := c) (ps := ws.map tl) fun p hp => by
    obtain ⟨y, hy, rfl⟩ := List.mem_map.mp hp
    rw [← len_tl]
    exact h y hy
  rw [List.length_map] at e
  exact e
/-- the first place that a filter keeps -/
theorem first_idx {α : Type} (q : α → Bool) : ∀ (l : List α) (n : Nat) {x : α} {k : Nat} {r : List (α × Nat)}, (l.zipIdx n).filter (fun z => q z.1) = (x, k) :: r → ∃ i, k = n + i ∧ l[i]? = some x ∧ q x = true ∧ ∀ (j : Nat) y, j < i → l[j]? = some y → q y = false
  | [], n, x, k, r, e => by cases e
  | a :: l, n, x, k, r, e => by
    rw [List.zipIdx_cons, List.filter_cons] at e
    by_cases h : q a = true
    · rw [if_pos h] at e
      have e1 := List.cons.inj e
      have e2 := Prod.mk.inj e1.1
      refine ⟨0, by omega, by rw [← e2.1]; rfl, by rw [← e2.1]; exact h, fun j y hj => absurd hj (by omega)⟩
    · rw [if_neg h] at e
      obtain ⟨i, h1, h2, h3, h4⟩ := first_idx q l (n + 1) e
      refine ⟨i + 1, by omega, h2, h3, fun j y hj hy => ?_⟩
      cases j with
      | zero =>
        have : a = y := Option.some.inj hy
        rw [← this]
        exact Bool.eq_false_iff.mpr h
      | succ j => exact h4 j y (by omega) hy
theorem none_idx {α : Type} (q : α → Bool) : ∀ (l : List α) (n : Nat), (l.zipIdx n).filter (fun z => q z.1) = [] → ∀ x ∈ l, q x = false
  | [], _, _, x, hx => by cases hx
  | a :: l, n, e, x, hx => by
    rw [List.zipIdx_cons, List.filter_cons] at e
    by_cases h : q a = true
    · rw [if_pos h] at e
      cases e
    · rw [if_neg h] at e
      rcases List.mem_cons.mp hx with z | z
      · rw [z]
        exact Bool.eq_false_iff.mpr h
      · exact none_idx q l (n + 1) e x z

/-! ### _law_like -/
def Leaf : V → Prop
  | .non => True
  | .bl _ => True
  | .int _ => True
  | .str _ => True
  | _ => False
abbrev LKT := Hp → V → V → Prop
def LkS (LK : LKT) : LKT := fun H x y => (x = y ∧ Leaf x) ∨ ∃ a b xs ys, x = .ref a ∧ y = .ref b ∧ ((H a = some (.lst xs) ∧ H b = some (.lst ys)) ∨ (H a = some (.tup xs) ∧ H b = some (.tup ys))) ∧ xs.length = ys.length ∧ xs.length ≤ 1000 ∧
  ∀ (i : Nat) x y, xs[i]? = some x → ys[i]? = some y → LK H x y
def Keep (LK : LKT) : Prop := ∀ H H' x y, Same H H' → LK H x y → LK H' x y
theorem keep_s {LK : LKT} (h : Keep LK) : Keep (LkS LK) := fun H H' x y e z => by
  rcases z with z | ⟨a, b, xs, ys, rfl, rfl, z, h1, h2, h3⟩
  · exact .inl z
  · refine .inr ⟨a, b, xs, ys, rfl, rfl, ?_, h1, h2, fun i x y hx hy => h H H' x y e (h3 i x y hx hy)⟩
    rcases z with z | z
    · exact .inl ⟨e _ _ z.1, e _ _ z.2⟩
    · exact .inr ⟨e _ _ z.1, e _ _ z.2⟩
def Lk0 : LKT := fun _ _ _ => False
def spLk (LK : LKT) : Sp := fun vs H Q _ => ∃ (x y : V), vs = [x, y] ∧ LK H x y ∧ ∀ H', Same H H' → Q (.bl true) H'
theorem ix_any {K : PySem.W.Frag} {H : Hp} {p : Addr} {xs : List V} {i : Int} {v : V} {Q : VK} (h : SqL K H p xs ∨ SqT K H p xs) (e : atI xs i = some v) (q : Q v H) : rIx K (.ref p) (.int i) H Q := by
  rcases h with h | h
  · exact .inl ⟨p, xs, i, v, rfl, rfl, h, e, q⟩
  · exact .inr (.inl ⟨p, xs, i, v, rfl, rfl, h, e, q⟩)
local macro_rules | `(tactic| walk_at "is") => `(tactic| (walk_at "z"; refine ⟨_, _, _, _, _, rfl, .ty _, (by first | exact .base .non | exact .base (.bl _) | exact .base (.int _) | exact .base (.str _) | exact .base (.lst (by assumption)) | exact .base (.tup (by assumption))), rfl, ?_⟩))
section
variable {P : Program} {w : World} {K : PySem.W.Frag} {mg : Str → Option Value} {base : Heap}
theorem sc__law_like : FnScope ["told", "due", "k"] ["told", "due"] (defScope s__law_like) := ⟨rfl, rfl, rfl, by decide +kernel, rfl, by decide +kernel, by decide +kernel⟩
theorem like_zero (T : Tx K mg) : Fk P w K mg base CX0 0 (He.fAd K d__law_like.at_) ["told", "due"] [] (spLk Lk0) := by
  obtain ⟨fd, F⟩ := T.D__law_like
  refine ⟨fd, [], ⟨fun vs H Q E h => ?_, fun A outer s H args us vs Q E hr e0 hb r h => ?_⟩, F.bindsN (fun _ _ _ _ _ _ us hl => match us, hl with | [_, _], _ => rfl), .nil, F.kp⟩
  · obtain ⟨x, y, rfl, z, _⟩ := h
    exact z.elim
  · obtain ⟨x, y, rfl, z, _⟩ := h
    exact z.elim
theorem like_step (T : Tx K mg) {k : Nat} {LK : LKT} (hk : Keep LK) (h : Fk P w K mg base CX0 k (He.fAd K d__law_like.at_) ["told", "due"] [] (spLk LK)) : Fk P w K mg base CX0 (k + 1) (He.fAd K d__law_like.at_) ["told", "due"] [] (spLk (LkS LK)) := by
  obtain ⟨fd, F⟩ := T.D__law_like
  refine ⟨fd, [], FunD.ok F sc__law_like (fun vs H Q E h => ?_) (fun cdv A outer s H vs Q E hr h1 => ?_), F.bindsN (fun _ _ _ _ _ _ us hl => match us, hl with | [_, _], _ => rfl), .nil, F.kp⟩
  · obtain ⟨x, y, rfl, _⟩ := h
    rfl
  · obtain ⟨x, y, rfl, hxy, q⟩ := h1
    refine ⟨_, PSs.nox 
(pss_cons (ps_if (PW.pt (pw_or (pt_val (pe_callB call_isi (by rfl) T.f_isinstance (by decide +kernel) (pa_cons (pv 1) (pa_cons (pe_bltn (by rfl) T.f_list (by decide +kernel) (v := .ty "list") rfl) pa_nil)))) (pw_or1 (pt_val (pe_callB call_isi (by rfl) T.f_isinstance (by decide +kernel) (pa_cons (pv 1) (pa_cons (pe_bltn (by rfl) T.f_tuple (by decide +kernel) (v := .ty "tuple") rfl) pa_nil))))))) (pss_cons (ps_if (PW.pt (pw_or (pt_cmpR op_ne (pe_callB call_isi (by rfl) T.f_isinstance (by decide +kernel) (pa_cons (pv 1) (pa_cons (pe_bltn (by rfl) T.f_list (by decide +kernel) (v := .ty "list") rfl) pa_nil))) (pe_callB call_isi (by rfl) T.f_isinstance (by decide +kernel) (pa_cons (pv 0) (pa_cons (pe_bltn (by rfl) T.f_list (by decide +kernel) (v := .ty "list") rfl) pa_nil))) (nomark _)) (pw_or1 (pt_cmpR op_ne (pe_callB call_isi (by rfl) T.f_isinstance (by decide +kernel) (pa_cons (pv 1) (pa_cons (pe_bltn (by rfl) T.f_tuple (by decide +kernel) (v := .ty "tuple") rfl) pa_nil))) (pe_callB call_isi (by rfl) T.f_isinstance (by decide +kernel) (pa_cons (pv 0) (pa_cons (pe_bltn (by rfl) T.f_tuple (by decide +kernel) (v := .ty "tuple") rfl) pa_nil))) (nomark _))))) (pss_one (ps_ret pe_bl)) pss_nil)
      (pss_cons (ps_if (pt_cmpR op_ne (pe_callB call_len_seq (by rfl) T.f_len PySem.boot_len (pa_cons (pv 0) pa_nil)) (pe_callB call_len_seq (by rfl) T.f_len PySem.boot_len (pa_cons (pv 1) pa_nil)) (nomark _)) (pss_one (ps_ret pe_bl)) pss_nil)
      (pss_one (ps_ret (pe_cmpR (op_eqD hr.units) (pe_lc (own := [("k", 2)]) (by rfl) sc__law_like.nd (pi_range1 (by rfl) T.f_range (pa_cons (pe_callB call_len_seq (by rfl) T.f_len PySem.boot_len (pa_cons (pv 1) pa_nil)) pa_nil)) (blkOk_by (N := ["told", "due", "k"]) (own := [("k", 2)]) (sc := defScope s__law_like) (by decide +kernel)) (fun _ _ _ _ _ => (pg_name (i := 2) sc__law_like.nd rfl (Or.inl rfl))) (fun _ _ _ _ _ => (pts_one (pt_not (pt_val (qcall h hr T.g__law_like pass0 (pa_cons (pe_ix (ix_seqK (K := K) rfl) (pv 0) (pv 2) (fun _ _ => rfl)) (pa_cons (pe_ix (ix_seqK (K := K) rfl) (pv 1) (pv 2) (fun _ _ => rfl)) pa_nil))))))) (fun _ _ _ _ _ => (pv 2))) (pe_lst pa_nil) (nomark _)))))) pss_nil)
      (pss_cons (ps_if (pt_cmpR op_isN (pv 1) pe_non (nomark _)) (pss_one (ps_ret (pe_cmpR op_isN (pv 0) pe_non (nomark _)))) pss_nil)
      (pss_cons (ps_if (pt_val (pe_callB call_isi (by rfl) T.f_isinstance (by decide +kernel) (pa_cons (pv 1) (pa_cons (pe_bltn (by rfl) T.f_bool (by decide +kernel) (v := .ty "bool") rfl) pa_nil)))) (pss_one (ps_ret (pe_and (pe_callB call_isi (by rfl) T.f_isinstance (by decide +kernel) (pa_cons (pv 0) (pa_cons (pe_bltn (by rfl) T.f_bool (by decide +kernel) (v := .ty "bool") rfl) pa_nil))) (pe_one (pe_cmpR op_eq (pv 0) (pv 1) (nomark _)))))) pss_nil)
      (pss_cons (ps_if (pt_val (pe_callB call_isi (by rfl) T.f_isinstance (by decide +kernel) (pa_cons (pv 1) (pa_cons (pe_bltn (by rfl) T.f_str (by decide +kernel) (v := .ty "str") rfl) pa_nil)))) (pss_one (ps_ret (pe_and (pe_callB call_isi (by rfl) T.f_isinstance (by decide +kernel) (pa_cons (pv 0) (pa_cons (pe_bltn (by rfl) T.f_str (by decide +kernel) (v := .ty "str") rfl) pa_nil))) (pe_one (pe_cmpR op_eq (pv 0) (pv 1) (nomark _)))))) pss_nil)
      (pss_one (ps_ret (pe_and (pe_callB call_isi (by rfl) T.f_isinstance (by decide +kernel) (pa_cons (pv 0) (pa_cons (pe_bltn (by rfl) T.f_int (by decide +kernel) (v := .ty "int") rfl) pa_nil))) (pe_and (pe_not (pe_callB call_isi (by rfl) T.f_isinstance (by decide +kernel) (pa_cons (pv 0) (pa_cons (pe_bltn (by rfl) T.f_bool (by decide +kernel) (v := .ty "bool") rfl) pa_nil)))) (pe_one (pe_cmpR op_eq (pv 0) (pv 1) (nomark _)))))))))))
      , ?_⟩
    rcases hxy with ⟨rfl, lf⟩ | ⟨a, b, xs, ys, rfl, rfl, hab, hl, hz, hall⟩
    · match x, lf with
      | .non, _ =>
        walk_at "is"
        walk_at "is"
        walk_at "z"
        exact q _ (Same.refl _)
      | .bl c, _ =>
        walk_at "is"
        walk_at "is"
        walk_at "is"
        walk_at "is"
        walk_at "z"
        rw [decide_eq_true rfl]
        exact q _ (Same.refl _)
      | .int n, _ =>
        walk_at "is"
        walk_at "is"
        walk_at "is"
        walk_at "is"
        walk_at "is"
        walk_at "is"
        walk_at "z"
        rw [decide_eq_true rfl]
        exact q _ (Same.refl _)
      | .str z, _ =>
        walk_at "is"
        walk_at "is"
        walk_at "is"
        walk_at "is"
        walk_at "is"
        walk_at "z"
        rw [decide_eq_true rfl]
        exact q _ (Same.refl _)
    · have ok : ∀ H1, Same H H1 → (SqL K H1 a xs ∨ SqT K H1 a xs) ∧ (SqL K H1 b ys ∨ SqT K H1 b ys) := fun H1 s1 => by
        rcases hab with z | z
        · exact ⟨.inl (SqL.of' (s1 _ _ z.1)), .inl (SqL.of' (s1 _ _ z.2))⟩
        · exact ⟨.inr (SqT.of' (s1 _ _ z.1)), .inr (SqT.of' (s1 _ _ z.2))⟩
      have len1 : (!decide (V.int (xs.length : Nat) = V.int (ys.length : Nat))) = false := by rw [hl, decide_eq_true rfl]; rfl
      rcases hab with ⟨ha, hb⟩ | ⟨ha, hb⟩
      all_goals
        repeat (walk_at "is")
        walk_at "z"
        refine ⟨_, xs, rfl, (ok _ (Same.refl _)).1, ?_⟩
        walk_at "z"
        refine ⟨_, ys, rfl, (ok _ (Same.refl _)).2, ?_⟩
        walk_at "z"
        refine ifF len1 ?_
        walk_at "z"
        refine ⟨_, ys, rfl, (ok _ (Same.refl _)).2, ?_⟩
        walk_at "z"
        refine ⟨by omega, by omega, fun D hD => ?_⟩
        refine lc_range (lo := 0) (n := ((ys.length : Nat) : Int).toNat) (fun i H1 => Same H H1 ∧ H1 D = some (.lst [])) ⟨Same.new hD, upd_same⟩ (fun i H1 hi z => ?_) (fun H1 z => ?_)
        · obtain ⟨s1, hd1⟩ := z
          have hiy : i < ys.length := by omega
          have hix : i < xs.length := by omega
          have hx := List.getElem?_eq_getElem hix
          have hy := List.getElem?_eq_getElem hiy
          walk_at "z"
          refine ix_any (ok _ s1).1 (at_of (by omega) hx) ?_
          walk_at "z"
          refine ix_any (ok _ s1).2 (at_of (by omega) hy) ?_
          refine ⟨_, _, rfl, hk _ _ _ _ s1 (hall i _ _ hx hy), fun H2 s2 => ?_⟩
          walk_at "z"
          exact ⟨s1.trans s2, s2 _ _ hd1⟩
        · obtain ⟨s1, hd1⟩ := z
          walk_at "z"
          refine ⟨by show 0 ≤ sizeLine; decide, fun E0 hE => ?_⟩
          refine ⟨.list [], .list [], .lst (SqL.of' ((Same.new hE) _ _ hd1)) .nil, .lst (SqL.of' upd_same) .nil, by decide, by decide, ?_⟩
          exact q _ (s1.trans (Same.new hE))
abbrev Lk4 : LKT := LkS (LkS (LkS (LkS Lk0)))
theorem keep0 : Keep Lk0 := fun _ _ _ _ _ z => z
theorem ok__law_like (T : Tx K mg) : Fk P w K mg base CX0 4 (He.fAd K d__law_like.at_) ["told", "due"] [] (spLk Lk4) :=
  like_step T (keep_s (keep_s (keep_s keep0))) (like_step T (keep_s (keep_s keep0)) (like_step T (keep_s keep0) (like_step T keep0 (like_zero T))))
theorem lk_leaf {LK : LKT} {H : Hp} {x : V} (h : Leaf x) : LkS LK H x x := .inl ⟨rfl, h⟩
theorem lk_num {LK : LKT} {H : Hp} {x y : V} {n : Nm} (hx : RN H x n) (hy : RN H y n) : LkS (LkS LK) H x y := by
  cases n with
  | r a =>
    obtain rfl : x = .int a := hx
    obtain rfl : y = .int a := hy
    exact lk_leaf trivial
  | q t b =>
    obtain ⟨a, rfl, ha⟩ := hx
    obtain ⟨c, rfl, hc⟩ := hy
    refine .inr ⟨a, c, _, _, rfl, rfl, .inr ⟨ha, hc⟩, rfl, by show 2 ≤ 1000; decide, fun i x y hx hy => ?_⟩
    rw [hx] at hy
    cases hy
    match i, hx with
    | 0, e => cases e; exact lk_leaf trivial
    | 1, e => cases e; exact lk_leaf trivial
theorem lk_er {LK : LKT} {H : Hp} {a c : Addr} {k : Int} (ha : H a = some (.lst (erL k))) (hc : H c = some (.lst (erL k))) : LkS (LkS LK) H (.ref a) (.ref c) := by
  refine .inr ⟨a, c, _, _, rfl, rfl, .inl ⟨ha, hc⟩, rfl, by show 3 ≤ 1000; decide, fun i x y hx hy => ?_⟩
  rw [hx] at hy
  cases hy
  match i, hx with
  | 0, e => cases e; exact lk_leaf trivial
  | 1, e => cases e; exact lk_leaf trivial
  | 2, e => cases e; exact lk_leaf trivial
theorem lk_rr {LK : LKT} {H : Hp} {x y : V} {r : Rs} (hx : RR H x r) (hy : RR H y r) : LkS (LkS LK) H x y := by
  cases r with
  | nm n => exact lk_num hx hy
  | bl b =>
    obtain rfl : x = .bl b := hx
    obtain rfl : y = .bl b := hy
    exact lk_leaf trivial
  | er k =>
    obtain ⟨a, rfl, ha⟩ := hx
    obtain ⟨c, rfl, hc⟩ := hy
    exact lk_er ha hc
theorem lk_row {LK : LKT} {H : Hp} {t a t' a' : Addr} {vs us : List V} {ns : List Nm} (ht : H t = some (.tup [.str "row", .ref a])) (ht' : H t' = some (.tup [.str "row", .ref a'])) (ha : H a = some (.lst vs)) (ha' : H a' = some (.lst us)) (r : RNs H vs ns) (r' : RNs H us ns)
    (hl : ns.length ≤ 1000) : LkS (LkS (LkS (LkS LK))) H (.ref t) (.ref t') := by
  refine .inr ⟨t, t', _, _, rfl, rfl, .inr ⟨ht, ht'⟩, rfl, by show 2 ≤ 1000; decide, fun i x y hx hy => ?_⟩
  match i, hx, hy with
  | 0, hx, hy =>
    cases hx
    cases hy
    exact lk_leaf trivial
  | 1, hx, hy =>
    cases hx
    cases hy
    refine .inr ⟨a, a', vs, us, rfl, rfl, .inl ⟨ha, ha'⟩, r.len.trans r'.len.symm, by rw [r.len]; exact hl, fun i x y hx hy => ?_⟩
    obtain ⟨n, e, hn⟩ := r.get hx
    obtain ⟨m, e', hm⟩ := r'.get hy
    rw [e] at e'
    cases e'
    exact lk_num hn hm
end

/-! ### _law_spoil -/
def spSpoil (S : Hp → V → Prop) (L : Hp → Addr → Prop) (D : Hp → Addr → Addr → Prop) : Sp := fun vs H Q _ => ∃ x, vs = [x] ∧ ((S H x ∧ ∀ H', Same H H' → Q .non H') ∨ (∃ a, x = .ref a ∧ L H a ∧ ∀ H', Fix [a] H H' → Q .non H') ∨ (∃ t a, x = .ref t ∧ D H t a ∧ ∀ H', Fix [a] H H' → Q .non H'))
def SS (S : Hp → V → Prop) (H : Hp) (x : V) : Prop := Leaf x ∨ ∃ a xs, x = .ref a ∧ H a = some (.tup xs) ∧ ∀ y ∈ xs, S H y
def LS (S : Hp → V → Prop) (H : Hp) (a : Addr) : Prop := ∃ xs, H a = some (.lst xs) ∧ xs.length ≤ 1000 ∧ ∀ y ∈ xs, S H y
def DS (S : Hp → V → Prop) (L : Hp → Addr → Prop) (H : Hp) (t a : Addr) : Prop := H t = some (.tup [.str "row", .ref a]) ∧ S H (.str "row") ∧ L H a
def KeepS (S : Hp → V → Prop) : Prop := ∀ H H' x, Same H H' → S H x → S H' x
theorem keep_ss {S : Hp → V → Prop} (h : KeepS S) : KeepS (SS S) := fun H H' x e z => by
  rcases z with z | ⟨a, xs, rfl, ha, z⟩
  · exact .inl z
  · exact .inr ⟨a, xs, rfl, e _ _ ha, fun y hy => h _ _ _ e (z y hy)⟩
local macro_rules | `(tactic| walk_at "is") => `(tactic| (walk_at "z"; refine ⟨_, _, _, _, _, rfl, .ty _, (by first | exact .base .non | exact .base (.bl _) | exact .base (.int _) | exact .base (.str _) | exact .base (.lst (by assumption)) | exact .base (.tup (by assumption))), rfl, ?_⟩))
section
variable {P : Program} {w : World} {K : PySem.W.Frag} {mg : Str → Option Value} {base : Heap}
theorem sc__law_spoil : FnScope ["told", "part"] ["told"] (defScope s__law_spoil) := ⟨rfl, rfl, rfl, by decide +kernel, rfl, by decide +kernel, by decide +kernel⟩
theorem spoil_zero (T : Tx K mg) : Fk P w K mg base CX0 0 (He.fAd K d__law_spoil.at_) ["told"] [] (spSpoil (fun _ _ => False) (fun _ _ => False) (fun _ _ _ => False)) := by
  obtain ⟨fd, F⟩ := T.D__law_spoil
  refine ⟨fd, [], ⟨fun vs H Q E h => ?_, fun A outer s H args us vs Q E hr e0 hb r h => ?_⟩, F.bindsN (fun _ _ _ _ _ _ us hl => match us, hl with | [_], _ => rfl), .nil, F.kp⟩
  · obtain ⟨x, rfl, _⟩ := h
    rfl
  · obtain ⟨x, rfl, ⟨z, _⟩ | ⟨_, _, z, _⟩ | ⟨_, _, _, z, _⟩⟩ := h <;> exact z.elim
theorem spoil_step (T : Tx K mg) {k : Nat} {S : Hp → V → Prop} {L : Hp → Addr → Prop} {D : Hp → Addr → Addr → Prop} (hS : KeepS S) (hL : ∀ H H' a, Same H H' → L H a → L H' a) (h : Fk P w K mg base CX0 k (He.fAd K d__law_spoil.at_) ["told"] [] (spSpoil S L D)) :
    Fk P w K mg base CX0 (k + 1) (He.fAd K d__law_spoil.at_) ["told"] [] (spSpoil (SS S) (LS S) (DS S L)) := by
  obtain ⟨fd, F⟩ := T.D__law_spoil
  refine ⟨fd, [], FunD.ok F sc__law_spoil (fun vs H Q E h => ?_) (fun cdv A outer s H vs Q E hr h1 => ?_), F.bindsN (fun _ _ _ _ _ _ us hl => match us, hl with | [_], _ => rfl), .nil, F.kp⟩
  · obtain ⟨x, rfl, _⟩ := h
    rfl
  · obtain ⟨x, rfl, h1⟩ := h1
    refine ⟨_, PSs.nox 
(pss_cons (ps_if (pt_val (pe_callB call_isi (by rfl) T.f_isinstance (by decide +kernel) (pa_cons (pv 0) (pa_cons (pe_bltn (by rfl) T.f_list (by decide +kernel) (v := .ty "list") rfl) pa_nil)))) (pss_cons (ps_for PassesOwn.never rfl (pi_list (pv 0)) (pg_name (i := 1) sc__law_spoil.nd rfl (Or.inl rfl)) (pss_one (ps_expr (qcall h hr T.g__law_spoil pass0 (pa_cons (pv 1) pa_nil)))))
      (pss_cons (ps_expr (pe_bm0 PySem.F.plainAttrs_list PySem.F.slot_list_reverse PySem.F.type_list_reverse mt_reverse (pv 0)))
      (pss_one (ps_expr (pe_bm PySem.F.plainAttrs_list PySem.F.slot_list_append PySem.F.type_list_append mt_append (pv 0) (pa_cons pe_str pa_nil)))))) pss_nil)
      (pss_one (ps_if (pt_val (pe_callB call_isi (by rfl) T.f_isinstance (by decide +kernel) (pa_cons (pv 0) (pa_cons (pe_bltn (by rfl) T.f_tuple (by decide +kernel) (v := .ty "tuple") rfl) pa_nil)))) (pss_one (ps_for PassesOwn.never rfl (pi_tup (pv 0)) (pg_name (i := 1) sc__law_spoil.nd rfl (Or.inl rfl)) (pss_one (ps_expr (qcall h hr T.g__law_spoil pass0 (pa_cons (pv 1) pa_nil)))))) pss_nil)))
      , ?_⟩
    rcases h1 with ⟨lf | ⟨a, xs, rfl, ha, hxs⟩, q⟩ | ⟨a, rfl, ⟨xs, ha, hl, hxs⟩, q⟩ | ⟨t, a, rfl, ⟨ht, hs, hla⟩, q⟩
    · match x, lf with
      | .non, _ =>
        walk_at "is"
        walk_at "is"
        walk_at "z"
        exact q _ (Same.refl _)
      | .bl c, _ =>
        walk_at "is"
        walk_at "is"
        walk_at "z"
        exact q _ (Same.refl _)
      | .int n, _ =>
        walk_at "is"
        walk_at "is"
        walk_at "z"
        exact q _ (Same.refl _)
      | .str z, _ =>
        walk_at "is"
        walk_at "is"
        walk_at "z"
        exact q _ (Same.refl _)
    · walk_at "is"
      walk_at "is"
      walk_at "z"
      refine ⟨⟨_, SqT.of' ha⟩, ?_⟩
      refine for_tup (xs := xs) (fun i σ H1 => ∃ v, σ = [some (.ref a), v] ∧ Same H H1) ⟨none, rfl, Same.refl _⟩ (fun i σ H1 _ z => ?_) (fun i x σ H1 hi z => ?_) (fun σ H1 z => ?_)
      · obtain ⟨v, rfl, s1⟩ := z
        exact SqT.of' (s1 _ _ ha)
      · obtain ⟨v, rfl, s1⟩ := z
        walk_at "z"
        refine .inl ⟨hS _ _ _ s1 (hxs x (List.mem_of_getElem? hi)), fun H2 s2 => ?_⟩
        exact ⟨_, rfl, s1.trans s2⟩
      · obtain ⟨v, rfl, s1⟩ := z
        exact q _ s1
    · walk_at "is"
      walk_at "z"
      refine ⟨⟨_, SqL.of' ha⟩, ?_⟩
      refine for_list (xs := xs) (fun i σ H1 => ∃ v, σ = [some (.ref a), v] ∧ Same H H1) ⟨none, rfl, Same.refl _⟩ (fun i σ H1 _ z => ?_) (fun i x σ H1 hi z => ?_) (fun σ H1 z => ?_)
      · obtain ⟨v, rfl, s1⟩ := z
        exact SqL.of' (s1 _ _ ha)
      · obtain ⟨v, rfl, s1⟩ := z
        walk_at "z"
        refine .inl ⟨hS _ _ _ s1 (hxs x (List.mem_of_getElem? hi)), fun H2 s2 => ?_⟩
        exact ⟨_, rfl, s1.trans s2⟩
      · obtain ⟨v, rfl, s1⟩ := z
        have ha1 := s1 _ _ ha
        walk_at "z"
        refine ⟨.inl ⟨rfl, _, SqL.of' ha1⟩, ?_⟩
        refine ⟨a, xs, rfl, rfl, ha1, ?_⟩
        have f1 : Fix [a] H (upd H1 a (.lst xs.reverse)) := (Fix.of s1).trans (Fix.put ha1)
        have ha2 : upd H1 a (.lst xs.reverse) a = some (.lst xs.reverse) := upd_same
        generalize upd H1 a (.lst xs.reverse) = H2 at *
        walk_at "z"
        refine ⟨.inl ⟨rfl, _, SqL.of' ha2⟩, ?_⟩
        walk_at "z"
        refine ⟨a, xs.reverse, _, rfl, rfl, ha2, by rw [List.length_reverse, sizeLine_eq]; omega, ?_⟩
        have f2 := f1.trans (Fix.put (ys := xs.reverse ++ [V.str "?"]) ha2)
        have ha3 : upd H2 a (.lst (xs.reverse ++ [V.str "?"])) a = some (.lst (xs.reverse ++ [V.str "?"])) := upd_same
        generalize upd H2 a (.lst (xs.reverse ++ [V.str "?"])) = H3 at *
        walk_at "is"
        walk_at "z"
        exact q _ f2
    · walk_at "is"
      walk_at "is"
      walk_at "z"
      refine ⟨⟨_, SqT.of' ht⟩, ?_⟩
      refine for_tup (xs := [.str "row", .ref a]) (fun i σ H1 => ∃ v, σ = [some (.ref t), v] ∧ Fix [a] H H1 ∧ (i ≤ 1 → Same H H1)) ⟨none, rfl, Fix.refl _, fun _ => Same.refl _⟩ (fun i σ H1 _ z => ?_) (fun i x σ H1 hi z => ?_) (fun σ H1 z => ?_)
      · obtain ⟨v, rfl, f1, _⟩ := z
        exact SqT.of' (f1.tup ht)
      · obtain ⟨v, rfl, f1, s1⟩ := z
        walk_at "z"
        match i, hi, s1 with
        | 0, hi, s1 =>
          cases hi
          refine .inl ⟨hS _ _ _ (s1 (by omega)) hs, fun H2 s2 => ?_⟩
          exact ⟨_, rfl, f1.trans (Fix.of s2), fun _ => (s1 (by omega)).trans s2⟩
        | 1, hi, s1 =>
          cases hi
          refine .inr (.inl ⟨a, rfl, hL _ _ _ (s1 (by omega)) hla, fun H2 s2 => ?_⟩)
          exact ⟨_, rfl, f1.trans s2, fun z => absurd z (by omega)⟩
      · obtain ⟨v, rfl, f1, _⟩ := z
        exact q _ f1
theorem keep_ls {S : Hp → V → Prop} (h : KeepS S) : ∀ H H' a, Same H H' → LS S H a → LS S H' a := fun H H' a e ⟨xs, ha, hl, z⟩ => ⟨xs, e _ _ ha, hl, fun y hy => h _ _ _ e (z y hy)⟩
theorem keep_f : KeepS (fun _ _ => False) := fun _ _ _ _ z => z
abbrev S3 : Hp → V → Prop := SS (SS (SS fun _ _ => False))
theorem ok__law_spoil (T : Tx K mg) : ∃ (S : Hp → V → Prop) (D : Hp → Addr → Addr → Prop), Fk P w K mg base CX0 4 (He.fAd K d__law_spoil.at_) ["told"] [] (spSpoil S (LS S3) (DS S3 (LS (SS (SS fun _ _ => False))))) :=
  ⟨_, fun _ _ _ => False, spoil_step T (keep_ss (keep_ss (keep_ss keep_f))) (keep_ls (keep_ss (keep_ss keep_f))) (spoil_step T (keep_ss (keep_ss keep_f)) (keep_ls (keep_ss keep_f)) (spoil_step T (keep_ss keep_f) (keep_ls keep_f) (spoil_step T keep_f (fun _ _ _ _ z => z) (spoil_zero T))))⟩
end

/-! ### _law_asks_row -/
theorem sz_640 {n : Nm} (h : Sz n) : ∀ t b, n = .q t b → t.natAbs < 2 ^ 640 ∧ b.natAbs < 2 ^ 640 := fun t b e => by
  subst e
  exact ⟨Nat.lt_of_lt_of_le h.1 (Nat.pow_le_pow_right (by decide) (by decide)), Nat.lt_of_lt_of_le h.2 (Nat.pow_le_pow_right (by decide) (by decide))⟩
theorem Same.fixn {H H1 H2 : Hp} {a : Addr} (s : Same H H1) (f : Fix [a] H1 H2) (n : H a = none) : Same H H2 := fun b o e => f b o (s b o e) fun hb => by
  have : b = a := by simpa using hb
  rw [this, n] at e
  cases e
theorem ss_rn {S : Hp → V → Prop} {H : Hp} {v : V} {n : Nm} (h : RN H v n) : SS (SS S) H v := by
  cases n with
  | r a =>
    obtain rfl : v = .int a := h
    exact .inl trivial
  | q t b =>
    obtain ⟨a, rfl, ha⟩ := h
    refine .inr ⟨a, _, rfl, ha, fun y hy => ?_⟩
    rcases List.mem_cons.mp hy with z | z
    · subst z
      exact .inl trivial
    · have : y = .int b := by simpa using z
      subst this
      exact .inl trivial
theorem ss_rns {S : Hp → V → Prop} {H : Hp} : ∀ {vs : List V} {ns : List Nm}, RNs H vs ns → ∀ y ∈ vs, SS (SS S) H y
  | [], [], _, y, hy => by cases hy
  | v :: vs, n :: ns, ⟨h, t⟩, y, hy => by
    rcases List.mem_cons.mp hy with z | z
    · rw [z]
      exact ss_rn h
    · exact ss_rns t y z
theorem ls_er {S : Hp → V → Prop} {H : Hp} {a : Addr} {k : Int} (h : H a = some (.lst (erL k))) : LS (SS S) H a := by
  refine ⟨_, h, by show 3 ≤ 1000; decide, fun y hy => .inl ?_⟩
  rcases List.mem_cons.mp hy with z | z
  · subst z
    exact trivial
  rcases List.mem_cons.mp z with z | z
  · subst z
    exact trivial
  · have : y = .bl true := by simpa using z
    subst this
    exact trivial
theorem some_inj {α : Type} : ∀ {l m : List α}, l.map some = m.map some → l = m
  | [], [], _ => rfl
  | [], _ :: _, e => by cases e
  | _ :: _, [], e => by cases e
  | a :: l, b :: m, e => by
    have e1 := List.cons.inj e
    rw [Option.some.inj e1.1, some_inj e1.2]
section
variable {P : Program} {w : World} {K : PySem.W.Frag} {mg : Str → Option Value} {base : Heap}
def spAsksRow (K : PySem.W.Frag) : Sp := fun vs H Q _ => ∃ (g r : Addr) (p : Option Int) (ps : List (V × Nm)), vs = [.ref g, pV p, .ref r] ∧ GdOk p ∧ GroundAt K H g p ∧ H r = some (.lst (ps.map (·.1))) ∧ GNs p H ps ∧ ps ≠ [] ∧ ps.length ≤ 1000 ∧
  ∀ H', Same H H' → Q (.bl true) H'
theorem sc__law_asks_row : FnScope ["ground", "p", "row", "words", "long", "due", "told", "x", "k"] ["ground", "p", "row"] (defScope s__law_asks_row) := ⟨rfl, rfl, rfl, by decide +kernel, rfl, by decide +kernel, by decide +kernel⟩
theorem ok__law_asks_row (T : Tx K mg) : Fk P w K mg base CX0 7 (He.fAd K d__law_asks_row.at_) ["ground", "p", "row"] [] (spAsksRow K) := by
  obtain ⟨fd, F⟩ := T.D__law_asks_row
  refine ⟨fd, [], FunD.ok F sc__law_asks_row (fun vs H Q E h => ?_) (fun cdv A outer s H vs Q E hr h => ?_), F.bindsN (fun _ _ _ _ _ _ us hl => match us, hl with | [_, _, _], _ => rfl), .nil, F.kp⟩
  · obtain ⟨g, r, p, ps, rfl, _⟩ := h
    rfl
  · obtain ⟨g, r, p, ps, rfl, hp, hg, hr1, hps, h0, hl, k⟩ := h
    obtain ⟨Ss, Ds, hsp⟩ := ok__law_spoil (P := P) (w := w) (base := base) T
    refine ⟨_, PSs.nox (pss_cons (ps_set (i := 3) sc__law_asks_row.nd rfl (Or.inl rfl) (pe_bm PySem.F.plainAttrs_str PySem.F.slot_str_join PySem.F.type_str_join mt_join pe_str (pa_cons (pe_lc (own := [("x", 7)]) (by rfl) sc__law_asks_row.nd (pi_list (pv 2)) (blkOk_by (N := ["ground", "p", "row", "words", "long", "due", "told", "x", "k"]) (own := [("x", 7)]) (sc := defScope s__law_asks_row) (by decide +kernel)) (fun _ _ _ _ _ => (pg_name (i := 7) sc__law_asks_row.nd rfl (Or.inl rfl))) (fun _ _ _ _ _ => pts_nil) (fun _ _ _ _ _ => (qcall ((ok__law_shown T).mono (by decide)) hr T.g__law_shown pass0 (pa_cons (pv 1) (pa_cons (pv 7) pa_nil))))) pa_nil)))
      (pss_cons (ps_if (pt_not (pt_val (qcall ((ok__law_like T).mono (by decide)) hr T.g__law_like pass0 (pa_cons (qmeth ((ok_Ground_show_row T).mono (by decide)) hr T.c_Ground T.m_Ground_show_row pass0 (pv 0) (pa_cons (pe_callTy call_tuple_of (by rfl) T.f_tuple (by decide +kernel) (pa_cons (pv 2) pa_nil)) pa_nil)) (pa_cons (pv 3) pa_nil))))) (pss_one (ps_ret pe_bl)) pss_nil)
      (pss_cons (ps_setLc (i := 4) (own := [("k", 8), ("x", 7)]) (by rfl) sc__law_asks_row.nd rfl rfl (sw_true rfl rfl rfl (by decide +kernel)) (pi_enum (by rfl) T.f_enumerate (pa_cons (pv 2) pa_nil)) (blkOk_by (N := ["ground", "p", "row", "words", "long", "due", "told", "x", "k"]) (own := [("k", 8), ("x", 7)]) (sc := defScope s__law_asks_row) (by decide +kernel)) (fun _ _ _ _ _ => (pg_tupK (K := K) (n := 2) rfl (by rfl) (pgs_cons (pg_name (i := 8) sc__law_asks_row.nd rfl (Or.inl rfl)) (pgs_cons (pg_name (i := 7) sc__law_asks_row.nd rfl (Or.inl rfl)) pgs_nil)))) (fun _ _ _ _ _ => (pts_one (pt_cmpR op_gt (qcall ((ok__law_digits T).mono (by decide)) hr T.g__law_digits pass0 (pa_cons (pv 1) (pa_cons (pv 7) pa_nil))) pe_int (nomark _)))) (fun _ _ _ _ _ => (pv 8)))
      (pss_cons (ps_set (i := 5) sc__law_asks_row.nd rfl (Or.inl rfl) (pe_tup (pa_cons pe_str (pa_cons (pe_callTy call_list_of (by rfl) T.f_list (by decide +kernel) (pa_cons (pv 2) pa_nil)) pa_nil))))
      (pss_cons (ps_if (pt_cmpR (op_neD hr.units) (pv 4) (pe_lst pa_nil) (nomark _)) (pss_one (ps_set (i := 5) sc__law_asks_row.nd rfl (Or.inl rfl) (pe_lst (pa_cons pe_str (pa_cons (pe_ix ix_list (pv 4) pe_int (fun _ _ => rfl)) (pa_cons pe_bl pa_nil)))))) pss_nil)
      (pss_cons (ps_set (i := 6) sc__law_asks_row.nd rfl (Or.inl rfl) (qcall ((ok__law_row T).mono (by decide)) hr T.g__law_row pass0 (pa_cons (pv 0) (pa_cons (pv 3) pa_nil))))
      (pss_cons (ps_if (pt_not (pt_val (qcall ((ok__law_like T).mono (by decide)) hr T.g__law_like pass0 (pa_cons (pv 6) (pa_cons (pv 5) pa_nil))))) (pss_one (ps_ret pe_bl)) pss_nil)
      (pss_cons (ps_expr (qcall (hsp.mono (by decide)) hr T.g__law_spoil pass0 (pa_cons (pv 6) pa_nil)))
      (pss_one (ps_ret (qcall ((ok__law_like T).mono (by decide)) hr T.g__law_like pass0 (pa_cons (qcall ((ok__law_row T).mono (by decide)) hr T.g__law_row pass0 (pa_cons (pv 0) (pa_cons (pv 3) pa_nil))) (pa_cons (pv 5) pa_nil))))))))))))), ?_⟩
    walk_at "z"
    refine ⟨⟨_, SqL.of' hr1⟩, fun D hD => ?_⟩
    refine lc_flat (fun q : V × Nm => q.1) (fun q => V.str (shown q.2)) (fun _ => true) ps hD (SqL.of' hr1) (by omega) (fun x H1 acc Nx hx s1 h1 l1 k1 k2 => ?_) (fun H1 s1 h1 => ?_)
    · obtain ⟨v, n⟩ := x
      obtain ⟨r1, n1, z1⟩ := hps _ hx
      walk_at "z"
      refine ⟨p, v, n, rfl, hp, n1, z1, r1.ex s1, ?_⟩
      exact ⟨acc, h1, l1, k1 _ rfl (Same.refl _)⟩
    rw [filt_true] at h1
    have hsh : ∀ y ∈ ps.map (fun q => shown q.2), y.length ≤ 191 ∧ 32 ∉ tl y := fun y hy => by
      obtain ⟨q, hq, rfl⟩ := List.mem_map.mp hy
      exact ⟨shown_len (hps q hq).2.1 (hps q hq).2.2 hp, no_space (hps q hq).2.1⟩
    have hjl := join_len (c := 191) (ws := ps.map fun q => shown q.2) fun y hy => (hsh y hy).1
    have hsp := split_sp (ws := ps.map fun q => shown q.2) (fun z => h0 (List.map_eq_nil_iff.mp z)) fun y hy => (hsh y hy).2
    walk_at "z"
    refine ⟨_, D, ps.map (fun q => shown q.2), rfl, rfl, .inl (SqL.of' (by rw [h1, List.map_map]; rfl)), join_ok (c := 191) (fun y hy => (hsh y hy).1) (by decide) (by rw [List.length_map]; exact hl), ?_⟩
    rw [List.length_map] at hjl
    generalize hx : Txt.join " " (ps.map fun q => shown q.2) = X at *
    -- ground.show_row(tuple(row))
    have hr2 := s1 _ _ hr1
    obtain ⟨dx, hg1⟩ := hg.ex' s1
    walk_at "z"
    refine ⟨_, _, _, rfl, hg1, rfl, ?_⟩
    walk_at "z"
    refine ⟨r, _, rfl, .inl ⟨SqL.of' hr2, fun t ht => ?_⟩⟩
    have s2 : Same H1 (upd H1 t (.tup (ps.map (·.1)))) := Same.new ht
    have t2 : upd H1 t (.tup (ps.map (·.1))) t = some (.tup (ps.map (·.1))) := upd_same
    generalize upd H1 t (.tup (ps.map (·.1))) = H2 at *
    have s12 := s1.trans s2
    walk_at "z"
    refine ⟨g, t, p, ps, rfl, hp, ⟨dx, s2 _ _ hg1⟩, t2, hps.ex s12, hl, fun H3 s3 => ?_⟩
    rw [hx]
    have s13 := s12.trans s3
    walk_at "z"
    refine ⟨lk_leaf trivial, fun H4 s4 => ?_⟩
    have s14 := s13.trans s4
    walk_at "z"
    -- long
    refine ⟨_, _, rfl, SqL.of' (s14 _ _ hr1), fun D2 hD2 => ?_⟩
    refine lc_flatE (fun q : V × Nm => q.1) (fun q => V.int (q.2 : Nat)) (fun q => decide (60 < dg q.1.2)) ps hD2 (SqL.of' (s14 _ _ hr1)) (by omega) (fun x i H5 E0 acc Nx hx s5 hE h5 l5 k1 k2 => ?_) (fun H5 s5 h5 => ?_)
    · obtain ⟨v, n⟩ := x
      obtain ⟨r1, n1, z1⟩ := hps _ (List.mem_of_getElem? hx)
      refine ⟨E0, _, rfl, SqT.of' upd_same, rfl, ?_⟩
      have sE : Same H5 (upd H5 E0 (.tup [.int (i : Nat), v])) := Same.new hE
      have rE := (r1.ex (s14.trans s5)).ex sE
      have hE5 := sE _ _ h5
      have kk1 := fun H4 e (z : Same _ H4) => k1 H4 e (sE.trans z)
      have kk2 := fun H4 e (z : Same _ H4) => k2 H4 e (sE.trans z)
      generalize upd H5 E0 _ = H6 at *
      walk_at "z"
      refine ⟨p, v, n, rfl, hp, n1, sz_640 z1, rE, ?_⟩
      walk_at "z"
      refine ifb (fun e => ?_) (fun e => ?_)
      · have e1 : 60 < dg n := by have z : (60 : Int) < (dg n : Nat) := of_decide_eq_true e; omega
        walk_at "z"
        exact ⟨acc, hE5, l5, kk1 _ (decide_eq_true e1) (Same.refl _)⟩
      · have e1 : ¬ 60 < dg n := by have z : ¬ (60 : Int) < (dg n : Nat) := of_decide_eq_false e; omega
        exact kk2 _ (decide_eq_false e1) (Same.refl _)
    have s15 := s14.trans s5
    have first : ∀ {q : (V × Nm) × Nat} {r}, ps.zipIdx.filter (fun q => decide (60 < dg q.1.2)) = q :: r → ∃ i, q.2 = i ∧ ps[i]? = some q.1 ∧ 60 < dg q.1.2 ∧ ∀ (j : Nat) y, j < i → ps[j]? = some y → dg y.2 ≤ 60 := fun {q r} e => by
      obtain ⟨i, h1, h2, h3, h4⟩ := first_idx (fun z : V × Nm => decide (60 < dg z.2)) ps 0 (x := q.1) (k := q.2) (r := r) e
      exact ⟨i, by omega, h2, of_decide_eq_true h3, fun j y hj hy => by have := of_decide_eq_false (h4 j y hj hy); omega⟩
    have none : ps.zipIdx.filter (fun q => decide (60 < dg q.1.2)) = [] → ∀ q ∈ ps, dg q.2 ≤ 60 := fun e q hq => by
      have := of_decide_eq_false (none_idx (fun z : V × Nm => decide (60 < dg z.2)) ps 0 e q hq)
      omega
    have hrd : ∀ (i : Nat) y, (ps.map fun q => shown q.2)[i]? = some y → ∃ q, ps[i]? = some q ∧ rd p (tl y) = if dg q.2 ≤ 60 then some q.2 else .none := fun i y hy => by
      rw [List.getElem?_map] at hy
      obtain ⟨q, hq, rfl⟩ := Option.map_eq_some_iff.mp hy
      exact ⟨q, hq, read_back hp (hps q (List.mem_of_getElem? hq)).2.1⟩
    have hsl : ∀ y ∈ ps.map (fun q => shown q.2), y.length ≤ 1000000 := fun y hy => Nat.le_trans (hsh y hy).1 (by decide)
    have hXl : X.length ≤ 1000000 := by omega
    walk_at "z"
    refine ⟨r, _, rfl, .inl (SqL.of' (s15 _ _ hr1)), fun c hc => ?_⟩
    have sc : Same H5 (upd H5 c (.lst (ps.map (·.1)))) := Same.new hc
    have c1 : upd H5 c (.lst (ps.map (·.1))) c = some (.lst (ps.map (·.1))) := upd_same
    have h6 := sc _ _ h5
    generalize upd H5 c (.lst (ps.map (·.1))) = H6 at *
    have s16 := s15.trans sc
    walk_at "z"
    refine ⟨by show 2 ≤ sizeLine; decide, fun T0 hT => ?_⟩
    have sT : Same H6 (upd H6 T0 (.tup [.str "row", .ref c])) := Same.new hT
    have T1 : upd H6 T0 (.tup [.str "row", .ref c]) T0 = some (.tup [.str "row", .ref c]) := upd_same
    have c7 := sT _ _ c1
    have h7 := sT _ _ h6
    generalize upd H6 T0 (.tup [.str "row", .ref c]) = H7 at *
    have s17 := s16.trans sT
    -- if long != []
    walk_at "z"
    refine ⟨by show 0 ≤ sizeLine; decide, fun E0 hE => ?_⟩
    have sE : Same H7 (upd H7 E0 (.lst [])) := Same.new hE
    have e8 : upd H7 E0 (.lst []) E0 = some (.lst []) := upd_same
    generalize upd H7 E0 (.lst []) = H8 at *
    have s18 := s17.trans sE
    have h8 := sE _ _ h7
    have c8 := sE _ _ c7
    have T8 := sE _ _ T1
    generalize hL : ps.zipIdx.filter (fun q => decide (60 < dg q.1.2)) = L at *
    have hLm : L.map (fun q => V.int (q.2 : Nat)) = (L.map fun q => ((q.2 : Nat) : Int)).map V.int := by rw [List.map_map]; rfl
    rw [hLm] at h8
    refine ⟨.list ((L.map fun q => ((q.2 : Nat) : Int)).map PyData.int), .list [], .lst (SqL.of' h8) (dp_ints _), .lst (SqL.of' e8) .nil, shaped_ints _, by decide, ?_⟩
    cases L with
    | nil =>
      have hall := none rfl
      have ens : (ps.map fun q => shown q.2).map (fun y => rd p (tl y)) = (ps.map (·.2)).map some := by
        rw [List.map_map, List.map_map]
        refine List.map_congr_left fun q hq => ?_
        show rd p (tl (shown q.2)) = some q.2
        rw [read_back hp (hps q hq).2.1, if_pos (hall q hq)]
      have nb : ∀ (i : Nat) y, (ps.map fun q => shown q.2)[i]? = some y → rd p (tl y) = .none → False := fun i y h1 h2 => by
        obtain ⟨q, hq, e⟩ := hrd i y h1
        rw [e, if_pos (hall q (List.mem_of_getElem? hq))] at h2
        cases h2
      have ne : ∀ ns : List Nm, (ps.map fun q => shown q.2).map (fun y => rd p (tl y)) = ns.map some → ns = ps.map (·.2) := fun ns e => by
        rw [ens] at e
        exact (some_inj e).symm
      walk_at "z"
      refine ⟨g, p, X, _, rfl, hp, hg.ex' s18, hsp, hXl, hsl, fun i y h1 h2 _ => (nb i y h1 h2).elim, fun ns e t a vs H9 s9 ha h9 r9 t9 => ?_⟩
      rw [ne ns e] at r9
      have r0 := (hps.ex (s18.trans s9)).rns
      walk_at "z"
      refine ⟨lk_row t9 (s9 _ _ T8) h9 (s9 _ _ c8) r9 r0 (by rw [List.length_map]; exact hl), fun H10 s10 => ?_⟩
      walk_at "z"
      refine .inr (.inr ⟨t, a, rfl, ⟨s10 _ _ t9, .inl trivial, ⟨vs, s10 _ _ h9, by rw [r9.len, List.length_map]; exact hl, ss_rns (r9.ex s10)⟩⟩, fun H11 f11 => ?_⟩)
      have s11 := Same.fixn (s9.trans s10) f11 ha
      walk_at "z"
      refine ⟨g, p, X, _, rfl, hp, hg.ex' (s18.trans s11), hsp, hXl, hsl, fun i y h1 h2 _ => (nb i y h1 h2).elim, fun ns e t' a' vs' H12 s12 ha' h12 r12 t12 => ?_⟩
      rw [ne ns e] at r12
      have s8 := s11.trans s12
      walk_at "z"
      refine ⟨lk_row t12 (s8 _ _ T8) h12 (s8 _ _ c8) r12 ((hps.ex (s18.trans s8)).rns) (by rw [List.length_map]; exact hl), fun H13 s13 => ?_⟩
      exact k _ ((s18.trans s8).trans s13)
    | cons q0 L =>
      obtain ⟨i0, e0, hq0, hd0, hmin⟩ := first rfl
      have hw : (ps.map fun q => shown q.2)[i0]? = some (shown q0.1.2) := by rw [List.getElem?_map, hq0]; rfl
      have hb : rd p (tl (shown q0.1.2)) = .none := by rw [read_back hp (hps q0.1 (List.mem_of_getElem? hq0)).2.1, if_neg (by omega)]
      have only : ∀ (i : Nat) y, (ps.map fun q => shown q.2)[i]? = some y → rd p (tl y) = .none → (∀ (j : Nat) y', j < i → (ps.map fun q => shown q.2)[j]? = some y' → rd p (tl y') ≠ .none) → i = q0.2 := fun i y h1 h2 h3 => by
        rcases Nat.lt_trichotomy i i0 with z | z | z
        · obtain ⟨q, hq, e⟩ := hrd i y h1
          rw [e, if_pos (hmin i q z hq)] at h2
          cases h2
        · rw [z, e0]
        · exact absurd hb (h3 i0 _ z hw)
      have no : ∀ ns : List Nm, (ps.map fun q => shown q.2).map (fun y => rd p (tl y)) = ns.map some → False := fun ns e => by
        have e1 : ((ps.map fun q => shown q.2).map (fun y => rd p (tl y)))[i0]? = (ns.map some)[i0]? := by rw [e]
        rw [List.getElem?_map, hw, List.getElem?_map] at e1
        rw [Option.map_some, hb] at e1
        cases h : ns[i0]? with
        | none => rw [h] at e1; cases e1
        | some n => rw [h] at e1; cases e1
      walk_at "z"
      refine ⟨_, _, _, _, rfl, rfl, SqL.of' h8, at_of (j := 0) rfl rfl, ?_⟩
      walk_at "z"
      refine ⟨by show 3 ≤ sizeLine; decide, fun d hd => ?_⟩
      have sd : Same H8 (upd H8 d (.lst (erL (q0.2 : Nat)))) := Same.new hd
      have d1 : upd H8 d (.lst (erL (q0.2 : Nat))) d = some (.lst (erL (q0.2 : Nat))) := upd_same
      walk_at "z"
      refine ⟨g, p, X, _, rfl, hp, hg.ex' (s18.trans sd), hsp, hXl, hsl, fun i y h1 h2 h3 a H10 s10 ha h10 => ?_, fun ns e => (no ns e).elim⟩
      rw [only i y h1 h2 h3] at h10
      walk_at "z"
      refine ⟨lk_er h10 (s10 _ _ d1), fun H11 s11 => ?_⟩
      walk_at "z"
      refine .inr (.inl ⟨a, rfl, ls_er (s11 _ _ h10), fun H12 f12 => ?_⟩)
      have s12 := Same.fixn (s10.trans s11) f12 ha
      walk_at "z"
      refine ⟨g, p, X, _, rfl, hp, hg.ex' (s18.trans (sd.trans s12)), hsp, hXl, hsl, fun i y h1 h2 h3 a' H13 s13 _ h13 => ?_, fun ns e => (no ns e).elim⟩
      rw [only i y h1 h2 h3] at h13
      have s9 := s12.trans s13
      walk_at "z"
      refine ⟨lk_er h13 (s9 _ _ d1), fun H14 s14 => ?_⟩
      exact k _ (((s18.trans sd).trans s9).trans s14)
end

/-! ### what _law_step rests on -/
theorem at_last {ps : List (V × Nm)} (h : ps ≠ []) : ∃ q ∈ ps, atI (ps.map (·.1)) (-1) = some q.1 := by
  have hl := List.length_pos_iff.mpr h
  refine ⟨ps[ps.length - 1], List.getElem_mem _, ?_⟩
  unfold atI ixN
  rw [if_neg (by omega), if_pos (by rw [List.length_map]; omega)]
  show (ps.map (·.1))[((-1 : Int) + ((ps.map (·.1)).length : Nat)).toNat]? = _
  rw [List.length_map, show ((-1 : Int) + (ps.length : Nat)).toNat = ps.length - 1 by omega, List.getElem?_map, List.getElem?_eq_getElem (by omega)]
  rfl
theorem last3 {ps : List (V × Nm)} : cutV (ps.map (·.1)) (some (-3)) none = (ps.drop (ps.length - 3)).map (·.1) := by
  unfold cutV
  have e : HT.sIx (ps.map (·.1)).length 0 (some (-3)) = ps.length - 3 := by
    show (if (-3 : Int) < 0 then ((-3 : Int) + ((ps.map (·.1)).length : Nat)).toNat else min (-3 : Int).toNat (ps.map (·.1)).length) = _
    rw [if_pos (by decide), List.length_map]
    omega
  rw [e, HT.sIx_none, List.map_drop, List.take_of_length_le (by rw [List.length_drop]; omega)]
theorem drop3_ne {ps : List (V × Nm)} (h : ps ≠ []) : ps.drop (ps.length - 3) ≠ [] := fun z => by
  have hl := List.length_pos_iff.mpr h
  have := congrArg List.length z
  rw [List.length_drop] at this
  have e : ([] : List (V × Nm)).length = 0 := rfl
  omega
theorem dl_lt {n k : Nat} (h : dl n ≤ k) : n < 10 ^ k := by
  have h1 := val_lt' (cs := numL n) fun c hc => numL_digits n c hc
  rw [numL_val] at h1
  exact Nat.lt_of_lt_of_le h1 (Nat.pow_le_pow_right (by decide) h)
theorem sz_dg {n : Nm} (h : dg n ≤ 90) : Sz n := by
  cases n with
  | r a => exact trivial
  | q t b =>
    have h : max (dl t.natAbs) (dl b.natAbs) ≤ 90 := h
    have h1 := dl_lt (n := t.natAbs) (k := 90) (by omega)
    have h2 := dl_lt (n := b.natAbs) (k := 90) (by omega)
    have h3 : 10 ^ 90 ≤ 2 ^ 310 := by decide
    exact ⟨Nat.lt_of_lt_of_le h1 h3, Nat.lt_of_lt_of_le h2 h3⟩
def Bg (n : Nm) : Prop := ∀ t b, n = .q t b → t.natAbs < 2 ^ 640 ∧ b.natAbs < 2 ^ 640
theorem bg_frac {a b : Int} (hb : b ≠ 0) (h1 : a.natAbs < 2 ^ 640) (h2 : b.natAbs < 2 ^ 640) : Bg (nfr (frac a b)) := fun t c e => by
  have := frac_size (a := a) hb
  have e1 := Nm.q.inj e
  rw [← e1.1, ← e1.2]
  omega
theorem w640 {a b : Int} (h1 : a.natAbs < 2 ^ 310) (h2 : b.natAbs < 2 ^ 310) : (a * b).natAbs < 2 ^ 640 := Nat.lt_of_lt_of_le (mul_sz h1 h2) (Nat.pow_le_pow_right (by decide) (by decide))
theorem bg_add {p : Option Int} {n m : Nm} (hn : NOk p n) (hm : NOk p m) (zn : Sz n) (zm : Sz m) : Bg (nadd p n m) := by
  match p, n, m, hn, hm with
  | none, .q t b, .q c d, hn, hm =>
    refine bg_frac (Int.mul_ne_zero (low_ne hn) (low_ne hm)) ?_ (w640 zn.2 zm.2)
    have h1 := mul_sz zn.1 zm.2
    have h2 := mul_sz zm.1 zn.2
    have h3 : 2 ^ 620 + 2 ^ 620 ≤ 2 ^ 640 := by decide
    have := Int.natAbs_add_le (t * d) (c * b)
    omega
  | some p, .r a, .r b, hn, hm => exact fun t b e => by cases e
theorem bg_mul {p : Option Int} {n m : Nm} (hn : NOk p n) (hm : NOk p m) (zn : Sz n) (zm : Sz m) : Bg (nmul p n m) := by
  match p, n, m, hn, hm with
  | none, .q t b, .q c d, hn, hm => exact bg_frac (Int.mul_ne_zero (low_ne hn) (low_ne hm)) (w640 zn.1 zm.1) (w640 zn.2 zm.2)
  | some p, .r a, .r b, hn, hm => exact fun t b e => by cases e
/-- a deed's number -/
theorem worked_nm {p : Option Int} {deed : Int} {n m r : Nm} (hp : GdOk p) (hn : NOk p n) (hm : NOk p m) (zn : Sz n) (zm : Sz m) (e : worked p deed n m = .nm r) : NOk p r ∧ Bg r := by
  unfold worked at e
  split at e
  · cases e
    exact ⟨nok_add hp hn hm, bg_add hn hm zn zm⟩
  split at e
  · cases e
    exact ⟨nok_add hp hn (nok_neg hp hm), bg_add hn (nok_neg hp hm) zn (sz_neg hm zm)⟩
  split at e
  · cases e
    exact ⟨nok_mul hp hn hm, bg_mul hn hm zn zm⟩
  split at e
  · split at e
    · cases e
    · rename_i h
      have h0 : ¬ nzero m := fun z => h ((nzB_iff m).mpr z)
      cases e
      exact ⟨nok_mul hp hn (nok_inv hp hm h0), bg_mul hn (nok_inv hp hm h0) zn (sz_inv hm zm h0)⟩
  · cases e
theorem worked_er {p : Option Int} {deed k : Int} {n m : Nm} (e : worked p deed n m = .er k) : k = 1 := by
  unfold worked at e
  split at e
  · cases e
  split at e
  · cases e
  split at e
  · cases e
  split at e
  · split at e
    · cases e
      rfl
    · cases e
  · cases e
theorem worked_bl {p : Option Int} {deed : Int} {n m : Nm} {b : Bool} (h0 : 0 ≤ deed) (h4 : deed ≤ 4) (e : worked p deed n m = .bl b) : deed = 4 := by
  unfold worked at e
  split at e
  · cases e
  split at e
  · cases e
  split at e
  · cases e
  split at e
  · split at e
    · cases e
    · cases e
  · omega
def badB : Option Int → Int → Bool
  | none, b => decide (V.int b = V.int 0)
  | some p, b => decide (V.int (b % p) = V.int 0)
theorem badB_iff {p : Option Int} {b : Int} : badB p b = true ↔ bad p b := by
  cases p with
  | none =>
    show decide (V.int b = V.int 0) = true ↔ b = 0
    simp
  | some p =>
    show decide (V.int (b % p) = V.int 0) = true ↔ b % p = 0
    simp
theorem nz_num {p : Option Int} {b : Int} : nzero (num p b) ↔ bad p b := by
  cases p with
  | none => exact Iff.rfl
  | some p => exact Iff.rfl
theorem num_eq {p : Option Int} {a b : Int} (h : ¬ bad p b) : nmul p (num p a) (ninv p (num p b)) = nnum p a b := by
  cases p with
  | none =>
    have e := div_frac (t := a) (b := 1) (c := b) (d := 1) (by decide) h
    show nfr (frac (a * (frac 1 b).1) (1 * (frac 1 b).2)) = nfr (frac a b)
    rw [← e, Int.mul_one, Int.one_mul]
  | some p =>
    show Nm.r (a % p * pinv p (b % p) % p) = .r (a * pinv p (b % p) % p)
    rw [Int.mul_emod, Int.emod_emod, ← Int.mul_emod]
theorem nok_nnum {p : Option Int} {a b : Int} (hp : GdOk p) (h : ¬ bad p b) : NOk p (nnum p a b) := by
  rw [← num_eq h]
  exact nok_mul hp (nok_num hp) (nok_inv hp (nok_num hp) fun z => h (nz_num.mp z))
theorem sz_num {p : Option Int} {a : Int} (h : a.natAbs < 10 ^ 60) : Sz (num p a) := by
  cases p with
  | none => exact ⟨Nat.lt_of_lt_of_le h (by decide), by decide⟩
  | some p => exact trivial
theorem sz_nnum {p : Option Int} {a b : Int} (ha : a.natAbs < 10 ^ 60) (hb : b.natAbs < 10 ^ 60) (h : ¬ bad p b) : Sz (nnum p a b) := by
  cases p with
  | none =>
    have := frac_size (a := a) (b := b) h
    have h3 : 10 ^ 60 ≤ 2 ^ 310 := by decide
    exact ⟨Nat.lt_of_lt_of_le (Nat.lt_of_le_of_lt this.1 ha) h3, Nat.lt_of_lt_of_le (Nat.lt_of_le_of_lt this.2 hb) h3⟩
  | some p => exact trivial

/-! ### _law_asks_wrong -/
def wrongs : List Str := ["", "-0", "+3", "03", " 1", "1 ", "1.0", "a", "1/", "/2", "--1", "1/1", "2/4", "1/-2", "1/0", "1/02", "1 /2", "0x1", "1_0"]
def bads : List Str := ["-0", "03", "a", "", "2/4", "+1", "1/1"]
theorem wrongs_f : wrongs.all (fun x => (frt (tl x)).isNone && decide (x.length ≤ 191)) = true := by decide +kernel
theorem wrongs_u : (wrongs ++ (["-1", "1/2", "00"] : List Str)).all (fun x => (uns (tl x)).isNone && decide (x.length ≤ 191)) = true := by decide +kernel
theorem bads_all : bads.all (fun x => (frt (tl x)).isNone && ((uns (tl x)).isNone && (decide (x.length ≤ 191) && decide (32 ∉ tl x)))) = true := by decide +kernel
theorem rd_none_f {l : List Nat} (h : (frt l).isNone = true) : rd none l = none := by
  show (frt l).map nfr = none
  rw [Option.isNone_iff_eq_none.mp h]
  rfl
theorem rd_none_u {q : Int} {l : List Nat} (h : (uns l).isNone = true) : rd (some q) l = none := by
  show (match uns l with
    | some n => if (n : Int) < q then some (Nm.r n) else none
    | none => none) = none
  rw [Option.isNone_iff_eq_none.mp h]
theorem bad_none {p : Option Int} {x : Str} (h : x ∈ bads) : rd p (tl x) = none ∧ x.length ≤ 191 ∧ 32 ∉ tl x := by
  have h1 := List.all_eq_true.mp bads_all x h
  obtain ⟨a, h1⟩ := Bool.and_eq_true_iff.mp h1
  obtain ⟨b, h1⟩ := Bool.and_eq_true_iff.mp h1
  obtain ⟨c, d⟩ := Bool.and_eq_true_iff.mp h1
  refine ⟨?_, of_decide_eq_true c, of_decide_eq_true d⟩
  cases p with
  | none => exact rd_none_f a
  | some q => exact rd_none_u b
theorem wrong_f {x : Str} (h : x ∈ wrongs) : rd none (tl x) = none ∧ x.length ≤ 191 := by
  have h1 := List.all_eq_true.mp wrongs_f x h
  obtain ⟨a, b⟩ := Bool.and_eq_true_iff.mp h1
  exact ⟨rd_none_f a, of_decide_eq_true b⟩
theorem wrong_u {q : Int} {x : Str} (h : x ∈ wrongs ++ (["-1", "1/2", "00"] : List Str)) : rd (some q) (tl x) = none ∧ x.length ≤ 191 := by
  have h1 := List.all_eq_true.mp wrongs_u x h
  obtain ⟨a, b⟩ := Bool.and_eq_true_iff.mp h1
  exact ⟨rd_none_u a, of_decide_eq_true b⟩
theorem rest_none {q a : Int} (hq : 3 ≤ q ∧ q ≤ 10007) (h : q ≤ a) (h2 : a ≤ 10008) : rd (some q) (tl (sInt a)) = none ∧ (sInt a).length ≤ 191 := by
  have hd : dl a.natAbs ≤ 60 := Nat.le_trans (dl_le (k := 5) (by decide) (by omega)) (by decide)
  refine ⟨?_, ?_⟩
  · rw [tl_sInt_nn (by omega)]
    show (match uns (numL a.natAbs) with
      | some n => if (n : Int) < q then some (Nm.r n) else none
      | none => none) = none
    rw [uns_num hd]
    exact if_neg (by omega)
  · have := sInt_len (n := a) (Nat.lt_of_le_of_lt (show a.natAbs ≤ 10008 by omega) (by decide))
    omega
theorem cutV_to {xs : List V} {k : Nat} : cutV xs none (some (k : Int)) = xs.take k := by
  unfold cutV
  rw [HT.sIx_none, List.drop_zero, Nat.sub_zero, HT.sIx_nat]
  by_cases h : k ≤ xs.length
  · rw [Nat.min_eq_left h]
  · rw [Nat.min_eq_right (by omega), List.take_of_length_le (Nat.le_refl _), List.take_of_length_le (by omega)]
theorem cutV_from {xs : List V} {k : Nat} : cutV xs (some (k : Int)) none = xs.drop k := by
  unfold cutV
  rw [HT.sIx_none, HT.sIx_nat]
  by_cases h : k ≤ xs.length
  · rw [Nat.min_eq_left h, List.take_of_length_le (by rw [List.length_drop]; omega)]
  · rw [Nat.min_eq_right (by omega), Nat.sub_self, List.take_zero, List.drop_eq_nil_of_le (by omega)]
section
variable {P : Program} {w : World} {K : PySem.W.Frag} {mg : Str → Option Value} {base : Heap}
def spAsksWrong (K : PySem.W.Frag) : Sp := fun vs H Q _ => ∃ (j gr sm g r : Addr) (p : Option Int) (ps : List (V × Nm)), vs = [.ref j, .ref g, pV p, .ref r] ∧ JarAt H j gr sm ∧ GdOk p ∧ GroundAt K H g p ∧ H r = some (.lst (ps.map (·.1))) ∧ r ≠ j ∧ r ≠ gr ∧ GNs p H ps ∧ ps.length ≤ 900 ∧
  ∀ H', JarAt H' j gr sm → Fix [j, gr] H H' → Q (.bl true) H'
theorem sc__law_asks_wrong : FnScope ["jar", "ground", "p", "row", "words", "word", "short", "bad", "at", "text", "x"] ["jar", "ground", "p", "row"] (defScope s__law_asks_wrong) := ⟨rfl, rfl, rfl, by decide +kernel, rfl, by decide +kernel, by decide +kernel⟩
theorem ok__law_asks_wrong (T : Tx K mg) : Fk P w K mg base CX0 7 (He.fAd K d__law_asks_wrong.at_) ["jar", "ground", "p", "row"] [] (spAsksWrong K) := by
  obtain ⟨fd, F⟩ := T.D__law_asks_wrong
  refine ⟨fd, [], FunD.ok F sc__law_asks_wrong (fun vs H Q E h => ?_) (fun cdv A outer s H vs Q E hr h => ?_), F.bindsN (fun _ _ _ _ _ _ us hl => match us, hl with | [_, _, _, _], _ => rfl), .nil, F.kp⟩
  · obtain ⟨j, gr, sm, g, r, p, ps, rfl, _⟩ := h
    rfl
  · obtain ⟨j, gr, sm, g, r, p, ps, rfl, hj, hp, hg, hr1, nrj, nrg, hps, hl, k⟩ := h
    refine ⟨_, PSs.nox (pss_cons (ps_set (i := 4) sc__law_asks_wrong.nd rfl (Or.inl rfl) (pe_lst (pa_cons pe_str (pa_cons pe_str (pa_cons pe_str (pa_cons pe_str (pa_cons pe_str (pa_cons pe_str (pa_cons pe_str (pa_cons pe_str (pa_cons pe_str (pa_cons pe_str (pa_cons pe_str (pa_cons pe_str (pa_cons pe_str (pa_cons pe_str (pa_cons pe_str (pa_cons pe_str (pa_cons pe_str (pa_cons pe_str (pa_cons pe_str pa_nil)))))))))))))))))))))
      (C8.pss_cut (ps_if (pt_cmpR op_notN (pv 2) pe_non (nomark _)) (pss_one (ps_set (i := 4) sc__law_asks_wrong.nd rfl (Or.inl rfl) (pe_op op_cat (pv 4) (pe_lst (pa_cons (pe_callTy call_str_int (by rfl) T.f_str (by decide +kernel) (pa_cons (pv 2) pa_nil)) (pa_cons (pe_callTy call_str_int (by rfl) T.f_str (by decide +kernel) (pa_cons (pe_op op_add (pv 2) pe_int) pa_nil)) (pa_cons pe_str (pa_cons pe_str (pa_cons pe_str pa_nil))))))))) pss_nil)
      (pss_cons (ps_set (i := 5) sc__law_asks_wrong.nd rfl (Or.inl rfl) (qcall ((ok__law_pick T).mono (by decide)) hr T.g__law_pick pass0 (pa_cons (pv 0) (pa_cons (pv 4) pa_nil))))
      (pss_cons (ps_if (pt_not (pt_val (qcall ((ok__law_like T).mono (by decide)) hr T.g__law_like pass0 (pa_cons (qcall ((ok__law_read T).mono (by decide)) hr T.g__law_read pass0 (pa_cons (pv 1) (pa_cons (pv 5) pa_nil))) (pa_cons (pe_lst (pa_cons pe_str (pa_cons pe_int (pa_cons pe_bl pa_nil)))) pa_nil))))) (pss_one (ps_ret pe_bl)) pss_nil)
      (pss_cons (ps_setLc (i := 6) (own := [("x", 10)]) (by rfl) sc__law_asks_wrong.nd rfl rfl (sw_true rfl rfl rfl (by decide +kernel)) (pi_list (pv 3)) (blkOk_by (N := ["jar", "ground", "p", "row", "words", "word", "short", "bad", "at", "text", "x"]) (own := [("x", 10)]) (sc := defScope s__law_asks_wrong) (by decide +kernel)) (fun _ _ _ _ _ => (pg_name (i := 10) sc__law_asks_wrong.nd rfl (Or.inl rfl))) (fun _ _ _ _ _ => (pts_one (pt_cmpR op_le (qcall ((ok__law_digits T).mono (by decide)) hr T.g__law_digits pass0 (pa_cons (pv 2) (pa_cons (pv 10) pa_nil))) pe_int (nomark _)))) (fun _ _ _ _ _ => (qcall ((ok__law_shown T).mono (by decide)) hr T.g__law_shown pass0 (pa_cons (pv 2) (pa_cons (pv 10) pa_nil)))))
      (pss_cons (ps_set (i := 7) sc__law_asks_wrong.nd rfl (Or.inl rfl) (qcall ((ok__law_pick T).mono (by decide)) hr T.g__law_pick pass0 (pa_cons (pv 0) (pa_cons (pe_lst (pa_cons pe_str (pa_cons pe_str (pa_cons pe_str (pa_cons pe_str (pa_cons pe_str (pa_cons pe_str (pa_cons pe_str pa_nil)))))))) pa_nil))))
      (pss_cons (ps_set (i := 8) sc__law_asks_wrong.nd rfl (Or.inl rfl) (qcall ((ok__law_take T).mono (by decide)) hr T.g__law_take pass0 (pa_cons (pv 0) (pa_cons (pe_op op_add (pe_callB call_len_seq (by rfl) T.f_len PySem.boot_len (pa_cons (pv 6) pa_nil)) pe_int) pa_nil))))
      (pss_cons (ps_set (i := 9) sc__law_asks_wrong.nd rfl (Or.inl rfl) (pe_bm PySem.F.plainAttrs_str PySem.F.slot_str_join PySem.F.type_str_join mt_join pe_str (pa_cons (pe_op op_cat (pe_op op_cat (pe_op op_cat (pe_slice sl_list (pv 6) po_none (po_some (pv 8))) (pe_lst (pa_cons (pv 7) pa_nil))) (pe_slice sl_list (pv 6) (po_some (pv 8)) po_none)) (pe_lst (pa_cons pe_str pa_nil))) pa_nil)))
      (pss_one (ps_ret (qcall ((ok__law_like T).mono (by decide)) hr T.g__law_like pass0 (pa_cons (qcall ((ok__law_row T).mono (by decide)) hr T.g__law_row pass0 (pa_cons (pv 1) (pa_cons (pv 9) pa_nil))) (pa_cons (pe_lst (pa_cons pe_str (pa_cons (pv 8) (pa_cons pe_bl pa_nil)))) pa_nil))))))))))))), ?_⟩
    walk_at "z"
    refine ⟨by show 19 ≤ sizeLine; decide, fun A0 hA => ?_⟩
    have sA : Same H (upd H A0 (.lst (wrongs.map V.str))) := Same.new hA
    have A1 : upd H A0 (.lst (wrongs.map V.str)) A0 = some (.lst (wrongs.map V.str)) := upd_same
    walk_at "z"
    refine ⟨fun σ H1 => ∃ (a : Addr) (wl : List Str), σ = [some (.ref j), some (.ref g), some (pV p), some (.ref r), some (.ref a), none, none, none, none, none, none] ∧ Same H H1 ∧ H a = none ∧ H1 a = some (.lst (wl.map V.str)) ∧ wl ≠ [] ∧ wl.length ≤ 900 ∧ ∀ x ∈ wl, rd p (tl x) = none ∧ x.length ≤ 191, ?_, ?_⟩
    · cases p with
      | none =>
        walk_at "z"
        exact ⟨A0, wrongs, rfl, sA, hA, A1, by decide, by decide, fun x hx => wrong_f hx⟩
      | some q =>
        have h3 := gd_pos hp
        walk_at "z"
        refine ⟨log_lt (small_sz (a := q) (by omega) h3.2), ?_⟩
        walk_at "z"
        refine ⟨log_lt (n := q + 1) (Nat.lt_of_le_of_lt (show (q + 1).natAbs ≤ 10008 by omega) (by decide)), ?_⟩
        walk_at "z"
        refine ⟨by show 5 ≤ sizeLine; decide, fun B hB => ?_⟩
        have B1 : ∀ xs, upd (upd H A0 (.lst (wrongs.map V.str))) B (.lst xs) B = some (.lst xs) := fun xs => upd_same
        have sB : ∀ xs, Same (upd H A0 (.lst (wrongs.map V.str))) (upd (upd H A0 (.lst (wrongs.map V.str))) B (.lst xs)) := fun xs => Same.new hB
        walk_at "z"
        refine ⟨A0, B, _, _, rfl, rfl, sB _ _ _ A1, B1 _, by show 19 + 5 ≤ sizeLine; decide, fun C hC => ?_⟩
        have hC0 : H C = none := (sA.trans (sB _)).free hC
        refine ⟨C, wrongs ++ [sInt q, sInt (q + 1), "-1", "1/2", "00"], rfl, (sA.trans (sB _)).trans (Same.new hC), hC0, ?_, List.append_ne_nil_of_left_ne_nil (by decide) _, by rw [List.length_append]; show 19 + 5 ≤ 900; decide, fun x hx => ?_⟩
        · rw [upd_same, List.map_append]
          rfl
        · rcases List.mem_append.mp hx with z | z
          · exact wrong_u (List.mem_append_left _ z)
          · rcases List.mem_cons.mp z with z | z
            · rw [z]
              exact rest_none h3 (Int.le_refl _) (by omega)
            · rcases List.mem_cons.mp z with z | z
              · rw [z]
                exact rest_none h3 (by omega) (by omega)
              · exact wrong_u (List.mem_append_right _ z)
    rintro σ H1 ⟨a, wl, rfl, s1, ha, h1, w0, wn, hw⟩
    have hj1 := hj.ex' s1
    have naj : a ≠ j := fun z => by
      obtain ⟨_, _, _, gs, ss, t, st, e1, _⟩ := hj
      rw [z, e1] at ha
      cases ha
    have nag : a ≠ gr := fun z => by
      obtain ⟨_, _, _, gs, ss, t, st, _, e1, _⟩ := hj
      rw [z, e1] at ha
      cases ha
    walk_at "z"
    refine ⟨j, gr, sm, a, _, rfl, hj1, h1, naj, nag, (fun z => w0 (List.map_eq_nil_iff.mp z)), by rw [List.length_map]; omega, fun v H2 hv hj2 f2 => ?_⟩
    obtain ⟨y, hy, rfl⟩ := List.mem_map.mp hv
    have f12 : Fix [j, gr] H H2 := ((Fix.of s1).trans f2)
    walk_at "z"
    have hrd := hw y hy
    refine ⟨g, p, y, rfl, hp, hg.fix f12, by have := hrd.2; omega, fun v H3 s3 r3 => ?_⟩
    have er : readR p (tl y) = .er 0 := by unfold readR; rw [hrd.1]
    rw [er] at r3
    obtain ⟨e3, rfl, he3⟩ := r3
    walk_at "z"
    refine ⟨by show 3 ≤ sizeLine; decide, fun D hD => ?_⟩
    have sD : Same H3 (upd H3 D (.lst (erL 0))) := Same.new hD
    walk_at "z"
    refine ⟨lk_er (sD _ _ he3) upd_same, fun H4 s4 => ?_⟩
    have s24 := (s3.trans sD).trans s4
    have f14 := f12.trans (Fix.of s24)
    have hj4 := hj2.ex' s24
    have hps4 := hps.fix f14
    have hr4 := f14.lst hr1 (by simp [nrj, nrg])
    -- short
    walk_at "z"
    refine ⟨⟨_, SqL.of' hr4⟩, fun S hS => ?_⟩
    refine lc_flat (fun q : V × Nm => q.1) (fun q => V.str (shown q.2)) (fun q => decide (dg q.2 ≤ 60)) ps hS (SqL.of' hr4) (by omega) (fun x H5 acc Nx hx s5 h5 l5 k1 k2 => ?_) (fun H5 s5 h5 => ?_)
    · obtain ⟨v, n⟩ := x
      obtain ⟨r1, n1, z1⟩ := hps4 _ hx
      have rE := r1.ex s5
      walk_at "z"
      refine ⟨p, v, n, rfl, hp, n1, sz_640 z1, rE, ?_⟩
      walk_at "z"
      refine ifb (fun e => ?_) (fun e => ?_)
      · have e1 : dg n ≤ 60 := by have z : ((dg n : Nat) : Int) ≤ 60 := of_decide_eq_true e; omega
        walk_at "z"
        refine ⟨p, v, n, rfl, hp, n1, z1, rE, ?_⟩
        exact ⟨acc, h5, l5, k1 _ (decide_eq_true e1) (Same.refl _)⟩
      · have e1 : ¬ dg n ≤ 60 := by have z : ¬ ((dg n : Nat) : Int) ≤ 60 := of_decide_eq_false e; omega
        exact k2 _ (decide_eq_false e1) (Same.refl _)
    walk_at "z"
    refine ⟨by show 7 ≤ sizeLine; decide, fun E1 hE => ?_⟩
    have sE : Same H5 (upd H5 E1 (.lst (bads.map V.str))) := Same.new hE
    have E2 : upd H5 E1 (.lst (bads.map V.str)) E1 = some (.lst (bads.map V.str)) := upd_same
    have jne : ∀ {H' : Hp} {z : Addr}, JarAt H' j gr sm → H' z = none → z ≠ j ∧ z ≠ gr := fun {H' z} hj hz => by
      obtain ⟨_, _, _, gs, ss, t, st, e1, e2, _⟩ := hj
      refine ⟨fun e => ?_, fun e => ?_⟩
      · rw [e, e1] at hz
        cases hz
      · rw [e, e2] at hz
        cases hz
    have hj5 := hj4.ex' s5
    obtain ⟨nE1, nE2⟩ := jne hj5 hE
    obtain ⟨nS1, nS2⟩ := jne hj4 hS
    have h5' := sE _ _ h5
    walk_at "z"
    refine ⟨j, gr, sm, E1, bads.map V.str, rfl, hj5.ex' sE, E2, nE1, nE2, by decide, by decide, fun v H7 hv hj7 f7 => ?_⟩
    obtain ⟨bd, hbd, rfl⟩ := List.mem_map.mp hv
    have h7 := f7.lst h5' (by simp [nS1, nS2])
    have f47 : Fix [j, gr] H4 H7 := (Fix.of (s5.trans sE)).trans f7
    generalize hsq : ps.filter (fun q => decide (dg q.2 ≤ 60)) = sq at *
    have hsql : sq.length ≤ 900 := by
      rw [← hsq]
      exact Nat.le_trans (List.length_filter_le _ _) hl
    walk_at "z"
    refine ⟨_, _, rfl, .inl (SqL.of' h7), ?_⟩
    rw [List.length_map]
    walk_at "z"
    refine ⟨j, gr, sm, _, rfl, by omega, by omega, hj7, fun at_ H8 a0 a1 hj8 f8 => ?_⟩
    obtain ⟨n, rfl⟩ := Int.eq_ofNat_of_zero_le a0
    have hn : n ≤ sq.length := by omega
    have h8 := f8.lst h7 (by simp [nS1, nS2])
    have f08 : Fix [j, gr] H H8 := (f14.trans f47).trans f8
    -- text
    walk_at "z"
    refine ⟨_, _, rfl, SqL.of' h8, fun a1 ha1 => ?_⟩
    rw [cutV_to]
    have sz0 : (sq.map fun q => V.str (shown q.2)).length ≤ 900 := by rw [List.length_map]; exact hsql
    generalize hF : (sq.map fun q => V.str (shown q.2)) = F at *
    have t1 : Same H8 (upd H8 a1 (.lst (F.take n))) := Same.new ha1
    have v1 : upd H8 a1 (.lst (F.take n)) a1 = some (.lst (F.take n)) := upd_same
    have h9 := t1 _ _ h8
    generalize upd H8 a1 (.lst (F.take n)) = G1 at *
    walk_at "z"
    refine ⟨by show 1 ≤ sizeLine; decide, fun a2 ha2 => ?_⟩
    have t2 : Same G1 (upd G1 a2 (.lst [V.str bd])) := Same.new ha2
    have v2 : upd G1 a2 (.lst [V.str bd]) a2 = some (.lst [V.str bd]) := upd_same
    have h10 := t2 _ _ h9
    have v12 := t2 _ _ v1
    generalize upd G1 a2 (.lst [V.str bd]) = G2 at *
    refine ⟨a1, a2, _, _, rfl, rfl, v12, v2, by rw [List.length_take, sizeLine_eq]; show _ + 1 ≤ _; omega, fun a3 ha3 => ?_⟩
    have t3 : Same G2 (upd G2 a3 (.lst (F.take n ++ [V.str bd]))) := Same.new ha3
    have v3 : upd G2 a3 (.lst (F.take n ++ [V.str bd])) a3 = some (.lst (F.take n ++ [V.str bd])) := upd_same
    have h11 := t3 _ _ h10
    generalize upd G2 a3 (.lst (F.take n ++ [V.str bd])) = G3 at *
    walk_at "z"
    refine ⟨_, _, rfl, SqL.of' h11, fun a4 ha4 => ?_⟩
    rw [cutV_from]
    have t4 : Same G3 (upd G3 a4 (.lst (F.drop n))) := Same.new ha4
    have v4 : upd G3 a4 (.lst (F.drop n)) a4 = some (.lst (F.drop n)) := upd_same
    have v34 := t4 _ _ v3
    generalize upd G3 a4 (.lst (F.drop n)) = G4 at *
    refine ⟨a3, a4, _, _, rfl, rfl, v34, v4, by rw [List.length_append, List.length_take, List.length_drop, sizeLine_eq]; show _ + 1 + _ ≤ _; omega, fun a5 ha5 => ?_⟩
    have t5 : Same G4 (upd G4 a5 (.lst (F.take n ++ [V.str bd] ++ F.drop n))) := Same.new ha5
    have v5 : upd G4 a5 (.lst (F.take n ++ [V.str bd] ++ F.drop n)) a5 = some (.lst (F.take n ++ [V.str bd] ++ F.drop n)) := upd_same
    generalize upd G4 a5 (.lst (F.take n ++ [V.str bd] ++ F.drop n)) = G5 at *
    walk_at "z"
    refine ⟨by show 1 ≤ sizeLine; decide, fun a6 ha6 => ?_⟩
    have t6 : Same G5 (upd G5 a6 (.lst [V.str "q"])) := Same.new ha6
    have v6 : upd G5 a6 (.lst [V.str "q"]) a6 = some (.lst [V.str "q"]) := upd_same
    have v56 := t6 _ _ v5
    refine ⟨a5, a6, _, _, rfl, rfl, v56, v6, by rw [List.length_append, List.length_append, List.length_take, List.length_drop, sizeLine_eq]; show _ + 1 + _ + 1 ≤ _; omega, fun a7 ha7 => ?_⟩
    have t7 : Same (upd G5 a6 (.lst [V.str "q"])) (upd (upd G5 a6 (.lst [V.str "q"])) a7 (.lst (F.take n ++ [V.str bd] ++ F.drop n ++ [V.str "q"]))) := Same.new ha7
    generalize hws : (sq.take n).map (fun q => shown q.2) ++ [bd] ++ (sq.drop n).map (fun q => shown q.2) ++ (["q"] : List Str) = ws
    have eF : F.take n ++ [V.str bd] ++ F.drop n ++ [V.str "q"] = ws.map V.str := by
      rw [← hws, ← hF, List.map_append, List.map_append, List.map_append, List.map_take, List.map_drop, List.map_take, List.map_drop, List.map_map]
      rfl
    rw [eF]
    have hbd := bad_none (p := p) hbd
    have hsq2 : ∀ q ∈ sq, q ∈ ps ∧ dg q.2 ≤ 60 := fun q hq => by
      rw [← hsq] at hq
      obtain ⟨h1, h2⟩ := List.mem_filter.mp hq
      exact ⟨h1, of_decide_eq_true h2⟩
    have hA : ∀ y ∈ (sq.take n).map (fun q => shown q.2), y.length ≤ 191 ∧ 32 ∉ tl y := fun y hy => by
      obtain ⟨q, hq, rfl⟩ := List.mem_map.mp hy
      have hq := (hsq2 q (List.mem_of_mem_take hq)).1
      exact ⟨shown_len (hps q hq).2.1 (hps q hq).2.2 hp, no_space (hps q hq).2.1⟩
    have hB : ∀ y ∈ (sq.drop n).map (fun q => shown q.2), y.length ≤ 191 ∧ 32 ∉ tl y := fun y hy => by
      obtain ⟨q, hq, rfl⟩ := List.mem_map.mp hy
      have hq := (hsq2 q (List.mem_of_mem_drop hq)).1
      exact ⟨shown_len (hps q hq).2.1 (hps q hq).2.2 hp, no_space (hps q hq).2.1⟩
    have hsh : ∀ y ∈ ws, y.length ≤ 191 ∧ 32 ∉ tl y := fun y hy => by
      rw [← hws] at hy
      rcases List.mem_append.mp hy with hy | hy
      · rcases List.mem_append.mp hy with hy | hy
        · rcases List.mem_append.mp hy with hy | hy
          · exact hA y hy
          · have : y = bd := by simpa using hy
            rw [this]
            exact hbd.2
        · exact hB y hy
      · have : y = "q" := by simpa using hy
        rw [this]
        exact ⟨by decide, by decide⟩
    have hla : ((sq.take n).map (fun q => shown q.2)).length = n := by rw [List.length_map, List.length_take]; omega
    have hwl : ws.length ≤ 902 := by
      rw [← hws, List.length_append, List.length_append, List.length_append, hla, List.length_map, List.length_drop]
      show n + 1 + _ + 1 ≤ _
      omega
    have hwn : ws[n]? = some bd := by
      rw [← hws, List.append_assoc, List.append_assoc, List.getElem?_append_right (by omega), hla, Nat.sub_self]
      rfl
    have hwj : ∀ (j : Nat) y, j < n → ws[j]? = some y → rd p (tl y) ≠ none := fun j y hj hy => by
      rw [← hws, List.append_assoc, List.append_assoc, List.getElem?_append_left (by omega), List.getElem?_map] at hy
      obtain ⟨q, hq, rfl⟩ := Option.map_eq_some_iff.mp hy
      have hq := hsq2 q (List.mem_of_mem_take (List.mem_of_getElem? hq))
      rw [read_back hp (hps q hq.1).2.1, if_pos hq.2]
      intro z
      cases z
    have hw0 : ws ≠ [] := fun z => by rw [z] at hwn; cases hwn
    have hjl := join_len (c := 191) (ws := ws) fun y hy => (hsh y hy).1
    have hsp := split_sp hw0 fun y hy => (hsh y hy).2
    walk_at "z"
    refine ⟨_, a7, ws, rfl, rfl, .inl (SqL.of' upd_same), join_ok (c := 191) (fun y hy => (hsh y hy).1) (by decide) (by omega), ?_⟩
    rw [eF] at t7
    have t8 := (((((t1.trans t2).trans t3).trans t4).trans t5).trans t6).trans t7
    generalize Txt.join " " ws = X at *
    generalize upd (upd G5 a6 (.lst [V.str "q"])) a7 (.lst (ws.map V.str)) = G7 at *
    walk_at "z"
    refine ⟨g, p, X, ws, rfl, hp, (hg.fix f08).ex' t8, hsp, by omega, fun y hy => Nat.le_trans (hsh y hy).1 (by decide), fun i y h1 h2 h3 a H9 s9 _ h9 => ?_, fun ns e => ?_⟩
    · have ei : i = n := by
        rcases Nat.lt_trichotomy i n with z | z | z
        · exact absurd h2 (hwj i y z h1)
        · exact z
        · exact absurd hbd.1 (h3 n bd z hwn)
      rw [ei] at h9
      walk_at "z"
      refine ⟨by show 3 ≤ sizeLine; decide, fun D2 hD2 => ?_⟩
      have sD2 : Same H9 (upd H9 D2 (.lst (erL (n : Nat)))) := Same.new hD2
      walk_at "z"
      refine ⟨lk_er (sD2 _ _ h9) upd_same, fun H10 s10 => ?_⟩
      have sf := ((t8.trans s9).trans sD2).trans s10
      exact k _ (hj8.ex' sf) (f08.trans (Fix.of sf))
    · have e1 : (ws.map (fun y => rd p (tl y)))[n]? = (ns.map some)[n]? := by rw [e]
      rw [List.getElem?_map, hwn, List.getElem?_map, Option.map_some, hbd.1] at e1
      cases h : ns[n]? with
      | none => rw [h] at e1; cases e1
      | some m => rw [h] at e1; cases e1
end

/-! ### _law_step -/
theorem RR.ex {H H' : Hp} {v : V} {r : Rs} (h : RR H v r) (e : Same H H') : RR H' v r := by
  cases r with
  | nm n => exact RN.ex h e
  | bl b => exact h
  | er k =>
    obtain ⟨a, rfl, ha⟩ := h
    exact ⟨a, rfl, e _ _ ha⟩
def StS (j g r : Addr) (p : Option Int) (kind : Int) (vx vy : V) (o7 : Option V) (a b way : Int) : L2.St := [some (.ref j), some (.ref g), some (pV p), some (.ref r), some (.int kind), some vx, some vy, o7, none, none, some (.int a), some (.int b), some (.int way)]
section
variable {P : Program} {w : World} {K : PySem.W.Frag} {mg : Str → Option Value} {base : Heap}
def spStep (K : PySem.W.Frag) : Sp := fun vs H Q _ => ∃ (j gr sm g r : Addr) (p : Option Int) (ps : List (V × Nm)), vs = [.ref j, .ref g, pV p, .ref r] ∧ JarAt H j gr sm ∧ GdOk p ∧ GroundAt K H g p ∧ H r = some (.lst (ps.map (·.1))) ∧ r ≠ j ∧ r ≠ gr ∧ r ≠ sm ∧ GNs p H ps ∧ ps ≠ [] ∧ ps.length ≤ 800 ∧
  ∀ ps' H', JarAt H' j gr sm → Fix [j, gr, r] H H' → H' r = some (.lst (ps'.map (·.1))) → GNs p H' ps' → ps' ≠ [] → ps'.length ≤ ps.length + 1 → Q (.bl true) H'
theorem sc__law_step : FnScope ["jar", "ground", "p", "stack", "kind", "x", "y", "bad", "due", "word", "a", "b", "way"] ["jar", "ground", "p", "stack"] (defScope s__law_step) := ⟨rfl, rfl, rfl, by decide +kernel, rfl, by decide +kernel, by decide +kernel⟩
theorem ok__law_step (T : Tx K mg) : Fk P w K mg base CX0 8 (He.fAd K d__law_step.at_) ["jar", "ground", "p", "stack"] [] (spStep K) := by
  obtain ⟨fd, F⟩ := T.D__law_step
  refine ⟨fd, [], FunD.ok F sc__law_step (fun vs H Q E h => ?_) (fun cdv A outer s H vs Q E hr h => ?_), F.bindsN (fun _ _ _ _ _ _ us hl => match us, hl with | [_, _, _, _], _ => rfl), .nil, F.kp⟩
  · obtain ⟨j, gr, sm, g, r, p, ps, rfl, _⟩ := h
    rfl
  · obtain ⟨j, gr, sm, g, r, p, ps, rfl, hj, hp, hg, hr1, nrj, nrg, nrs, hps, h0, hl, k⟩ := h
    refine ⟨_, PSs.nox (pss_cons (ps_set (i := 4) sc__law_step.nd rfl (Or.inl rfl) (qcall ((ok__law_take T).mono (by decide)) hr T.g__law_take pass0 (pa_cons (pv 0) (pa_cons pe_int pa_nil))))
      (pss_cons (ps_set (i := 5) sc__law_step.nd rfl (Or.inl rfl) (pe_ix ix_list (pv 3) (pe_un un_neg pe_int) (fun _ _ => rfl)))
      (pss_cons (ps_set (i := 6) sc__law_step.nd rfl (Or.inl rfl) (qcall ((ok__law_pick T).mono (by decide)) hr T.g__law_pick pass0 (pa_cons (pv 0) (pa_cons (pv 3) pa_nil))))
      (pss_cons (ps_if (pt_cmpR op_lt (pv 4) pe_int (nomark _)) (pss_cons (ps_par3 (i := 10) (j := 11) (l := 12) (by rfl) sc__law_step.nd rfl rfl rfl (by decide) (by decide) (by decide) rfl rfl rfl (pa_cons (qcall ((ok__law_whole T).mono (by decide)) hr T.g__law_whole pass0 (pa_cons (pv 0) (pa_cons (pv 2) pa_nil))) (pa_cons (qcall ((ok__law_whole T).mono (by decide)) hr T.g__law_whole pass0 (pa_cons (pv 0) (pa_cons (pv 2) pa_nil))) (pa_cons (qcall ((ok__law_take T).mono (by decide)) hr T.g__law_take pass0 (pa_cons (pv 0) (pa_cons pe_int pa_nil))) pa_nil))) (by rfl))
      (C8.pss_cut (ps_if (pt_cmpR op_eq (qcall ((ok__law_take T).mono (by decide)) hr T.g__law_take pass0 (pa_cons (pv 0) (pa_cons pe_int pa_nil))) pe_int (nomark _)) (pss_one (ps_set (i := 11) sc__law_step.nd rfl (Or.inl rfl) pe_int)) pss_nil)
      (C8.pss_cut (ps_if (pt_cmpR op_eq (pv 12) pe_int (nomark _)) (pss_one (ps_set (i := 11) sc__law_step.nd rfl (Or.inl rfl) pe_int)) pss_nil)
      (pss_cons (ps_set (i := 7) sc__law_step.nd rfl (Or.inl rfl) (pe_cmpR op_eq (pv 11) pe_int (nomark _)))
      (C8.pss_cut (ps_if (pt_cmpR op_notN (pv 2) pe_non (nomark _)) (pss_one (ps_set (i := 7) sc__law_step.nd rfl (Or.inl rfl) (pe_cmpR op_eq (pe_op op_mod (pe_callTy call_int1 (by rfl) T.f_int (by decide +kernel) (pa_cons (pv 11) pa_nil)) (pv 2)) pe_int (nomark _)))) pss_nil)
      (pss_cons (ps_if (pt_val (pv 7)) (pss_one (ps_ret (qcall ((ok__law_like T).mono (by decide)) hr T.g__law_like pass0 (pa_cons (qcall ((ok__law_number T).mono (by decide)) hr T.g__law_number pass0 (pa_cons (pv 1) (pa_cons (pv 12) (pa_cons (pv 10) (pa_cons (pv 11) pa_nil))))) (pa_cons (pe_lst (pa_cons pe_str (pa_cons pe_int (pa_cons pe_bl pa_nil)))) pa_nil))))) pss_nil)
      (pss_cons (ps_set (i := 8) sc__law_step.nd rfl (Or.inl rfl) (qcall ((ok__law_mul T).mono (by decide)) hr T.g__law_mul pass0 (pa_cons (pv 2) (pa_cons (qcall ((ok__law_num T).mono (by decide)) hr T.g__law_num pass0 (pa_cons (pv 2) (pa_cons (pv 10) pa_nil))) (pa_cons (qcall ((ok__law_inv T).mono (by decide)) hr T.g__law_inv pass0 (pa_cons (pv 2) (pa_cons (qcall ((ok__law_num T).mono (by decide)) hr T.g__law_num pass0 (pa_cons (pv 2) (pa_cons (pv 11) pa_nil))) pa_nil))) pa_nil)))))
      (pss_cons (ps_if (pt_not (pt_val (qcall ((ok__law_like T).mono (by decide)) hr T.g__law_like pass0 (pa_cons (qcall ((ok__law_number T).mono (by decide)) hr T.g__law_number pass0 (pa_cons (pv 1) (pa_cons (pv 12) (pa_cons (pv 10) (pa_cons (pv 11) pa_nil))))) (pa_cons (pv 8) pa_nil))))) (pss_one (ps_ret pe_bl)) pss_nil)
      (pss_cons (ps_expr (pe_bm PySem.F.plainAttrs_list PySem.F.slot_list_append PySem.F.type_list_append mt_append (pv 3) (pa_cons (pv 8) pa_nil)))
      (pss_one (ps_ret pe_bl))))))))))) pss_nil)
      (pss_cons (ps_if (pt_cmpR op_lt (pv 4) pe_int (nomark _)) (pss_cons (ps_set (i := 8) sc__law_step.nd rfl (Or.inl rfl) (qcall ((ok__law_worked T).mono (by decide)) hr T.g__law_worked pass0 (pa_cons (pv 2) (pa_cons (pe_op op_sub (pv 4) pe_int) (pa_cons (pv 5) (pa_cons (pv 6) pa_nil))))))
      (pss_cons (ps_if (pt_not (pt_val (qcall ((ok__law_like T).mono (by decide)) hr T.g__law_like pass0 (pa_cons (qcall ((ok__law_told T).mono (by decide)) hr T.g__law_told pass0 (pa_cons (pv 1) (pa_cons (pe_op op_sub (pv 4) pe_int) (pa_cons (pv 5) (pa_cons (pv 6) pa_nil))))) (pa_cons (pv 8) pa_nil))))) (pss_one (ps_ret pe_bl)) pss_nil)
      (pss_cons (ps_if (PW.pt (pw_or (pt_cmpR op_eq (pv 4) pe_int (nomark _)) (pw_or1 (pt_val (pe_callB call_isi (by rfl) T.f_isinstance (by decide +kernel) (pa_cons (pv 8) (pa_cons (pe_bltn (by rfl) T.f_list (by decide +kernel) (v := .ty "list") rfl) pa_nil))))))) (pss_one (ps_ret pe_bl)) pss_nil)
      (pss_cons (ps_if (pt_cmpR op_le (qcall ((ok__law_digits T).mono (by decide)) hr T.g__law_digits pass0 (pa_cons (pv 2) (pa_cons (pv 8) pa_nil))) pe_int (nomark _)) (pss_one (ps_expr (pe_bm PySem.F.plainAttrs_list PySem.F.slot_list_append PySem.F.type_list_append mt_append (pv 3) (pa_cons (pv 8) pa_nil)))) pss_nil)
      (pss_one (ps_ret pe_bl)))))) pss_nil)
      (pss_cons (ps_if (pt_cmpR op_lt (pv 4) pe_int (nomark _)) (pss_cons (ps_set (i := 9) sc__law_step.nd rfl (Or.inl rfl) (qcall ((ok__law_shown T).mono (by decide)) hr T.g__law_shown pass0 (pa_cons (pv 2) (pa_cons (pv 5) pa_nil))))
      (pss_cons (ps_if (pt_not (pt_val (qcall ((ok__law_like T).mono (by decide)) hr T.g__law_like pass0 (pa_cons (qmeth ((ok_Ground_show T).mono (by decide)) hr T.c_Ground T.m_Ground_show pass0 (pv 1) (pa_cons (pv 5) pa_nil)) (pa_cons (pv 9) pa_nil))))) (pss_one (ps_ret pe_bl)) pss_nil)
      (pss_cons (ps_set (i := 8) sc__law_step.nd rfl (Or.inl rfl) (pv 5))
      (pss_cons (ps_if (pt_cmpR op_gt (qcall ((ok__law_digits T).mono (by decide)) hr T.g__law_digits pass0 (pa_cons (pv 2) (pa_cons (pv 5) pa_nil))) pe_int (nomark _)) (pss_one (ps_set (i := 8) sc__law_step.nd rfl (Or.inl rfl) (pe_lst (pa_cons pe_str (pa_cons pe_int (pa_cons pe_bl pa_nil)))))) pss_nil)
      (pss_one (ps_ret (qcall ((ok__law_like T).mono (by decide)) hr T.g__law_like pass0 (pa_cons (qcall ((ok__law_read T).mono (by decide)) hr T.g__law_read pass0 (pa_cons (pv 1) (pa_cons (pv 9) pa_nil))) (pa_cons (pv 8) pa_nil))))))))) pss_nil)
      (pss_cons (ps_if (pt_cmpR op_eq (pv 4) pe_int (nomark _)) (pss_one (ps_ret (qcall ((ok__law_asks_row T).mono (by decide)) hr T.g__law_asks_row pass0 (pa_cons (pv 1) (pa_cons (pv 2) (pa_cons (pe_slice sl_list (pv 3) (po_some (pe_un un_neg pe_int)) po_none) pa_nil)))))) pss_nil)
      (pss_one (ps_ret (qcall ((ok__law_asks_wrong T).mono (by decide)) hr T.g__law_asks_wrong pass0 (pa_cons (pv 0) (pa_cons (pv 1) (pa_cons (pv 2) (pa_cons (pe_slice sl_list (pv 3) (po_some (pe_un un_neg pe_int)) po_none) pa_nil)))))))))))))), ?_⟩
    walk_at "z"
    refine ⟨j, gr, sm, _, rfl, by decide, by decide, hj, fun kind H1 k0 k1 hj1 f1 => ?_⟩
    have hr2 := f1.lst hr1 (by simp [nrj, nrg])
    obtain ⟨qx, hqx, ex⟩ := at_last h0
    walk_at "z"
    refine ⟨_, _, _, _, rfl, rfl, SqL.of' hr2, ex, ?_⟩
    walk_at "z"
    refine ⟨j, gr, sm, r, _, rfl, hj1, hr2, nrj, nrg, (fun z => h0 (List.map_eq_nil_iff.mp z)), by rw [List.length_map]; omega, fun vy H2 hv hj2 f2 => ?_⟩
    obtain ⟨qy, hqy, rfl⟩ := List.mem_map.mp hv
    obtain ⟨vx, nx⟩ := qx
    obtain ⟨vy, ny⟩ := qy
    have f12 := f1.trans f2
    have hr3 := f12.lst hr1 (by simp [nrj, nrg])
    have hps2 := hps.fix f12
    have hg2 := hg.fix f12
    obtain ⟨rx, okx, zx⟩ := hps2 _ hqx
    obtain ⟨ry, oky, zy⟩ := hps2 _ hqy
    have same : ∀ H', JarAt H' j gr sm → Fix [j, gr] H2 H' → Q (.bl true) H' := fun H' hj' f' => by
      have f := f12.trans f'
      exact k ps H' hj' (f.mono (by simp +contextual)) (f.lst hr1 (by simp [nrj, nrg])) (hps.fix f) h0 (by omega)
    have grow : ∀ (v : V) (n : Nm) H', JarAt H' j gr sm → Fix [j, gr] H2 H' → RN H' v n → NOk p n → Sz n → Q (.bl true) (upd H' r (.lst (ps.map (·.1) ++ [v]))) := fun v n H' hj' f' rn okn zn => by
      have f := f12.trans f'
      have h1 := f.lst hr1 (by simp [nrj, nrg])
      have fr : Fix [r] H' (upd H' r (.lst (ps.map (·.1) ++ [v]))) := Fix.put h1
      refine k (ps ++ [(v, n)]) _ ?_ ((f.mono (by simp +contextual)).trans (fr.mono (by simp +contextual))) (by rw [upd_same, List.map_append]; rfl) (((hps.fix f).fix fr).more (rn.fix fr) okn zn) (by simp) (by rw [List.length_append]; exact Nat.le_refl _)
      exact hj'.fix fr (by simp [nrj.symm]) (by simp [nrg.symm]) (by simp [nrs.symm])
    have apl : ∀ {H'}, Fix [j, gr] H2 H' → H' r = some (.lst (ps.map (·.1))) := fun {H'} f' => (f12.trans f').lst hr1 (by simp [nrj, nrg])
    walk_at "z"
    refine ifb (fun e => ?_) (fun e => ?_)
    · -- kind < 4
      walk_at "z"
      refine ⟨j, gr, sm, p, rfl, hp, hj2, fun a H3 ha hj3 f3 => ?_⟩
      walk_at "z"
      refine ⟨j, gr, sm, p, rfl, hp, hj3, fun b0 H4 hb0 hj4 f4 => ?_⟩
      walk_at "z"
      refine ⟨j, gr, sm, _, rfl, by decide, by decide, hj4, fun way H5 w0 w1 hj5 f5 => ?_⟩
      refine ⟨_, _, _, rfl, ?_⟩
      -- if _law_take(jar, 8) == 0
      refine ⟨fun σ H6 => ∃ b, σ = StS j g r p kind vx vy none a b way ∧ b.natAbs < 10 ^ 60 ∧ JarAt H6 j gr sm ∧ Fix [j, gr] H2 H6, ?_, ?_⟩
      · have f25 := (f3.trans f4).trans f5
        walk_at "z"
        refine ⟨j, gr, sm, _, rfl, by decide, by decide, hj5, fun c H6 c0 c1 hj6 f6 => ?_⟩
        walk_at "z"
        refine ifb (fun e => ?_) (fun e => ?_)
        · walk_at "z"
          exact ⟨by decide, hj6, f25.trans f6⟩
        · walk_at "z"
          exact ⟨hb0, hj6, f25.trans f6⟩
      rintro σ H6 ⟨b1, rfl, hb1, hj6, f6⟩
      refine ⟨fun σ H6 => ∃ b, σ = StS j g r p kind vx vy none a b way ∧ b.natAbs < 10 ^ 60 ∧ JarAt H6 j gr sm ∧ Fix [j, gr] H2 H6, ?_, ?_⟩
      · walk_at "z"
        refine ifb (fun e => ?_) (fun e => ?_)
        · walk_at "z"
          exact ⟨by decide, hj6, f6⟩
        · walk_at "z"
          exact ⟨hb1, hj6, f6⟩
      rintro σ H7 ⟨b, rfl, hb, hj7, f7⟩
      walk_at "z"
      refine ⟨fun σ H8 => σ = StS j g r p kind vx vy (some (.bl (badB p b))) a b way ∧ H8 = H7, ?_, ?_⟩
      · cases p with
        | none =>
          walk_at "z"
          rfl
        | some q =>
          have h3 := gd_pos hp
          walk_at "z"
          refine .inl ⟨_, rfl, ?_⟩
          walk_at "z"
          refine ⟨by show 0 < q; omega, ?_⟩
          walk_at "z"
          rfl
      rintro σ H8 ⟨rfl, rfl⟩
      have hg8 := hg2.fix f7
      have hb2 : b.natAbs < 2 ^ 2900 := Nat.lt_of_lt_of_le hb (Nat.le_trans (show 10 ^ 60 ≤ 2 ^ 200 by decide) (Nat.pow_le_pow_right (by decide) (by decide)))
      walk_at "z"
      refine ifb (fun e => ?_) (fun e => ?_)
      · have hbad := badB_iff.mp e
        walk_at "z"
        refine ⟨g, p, way, a, b, rfl, hp, hg8, hb2, fun v H9 s9 r9 => ?_⟩
        rw [numR_bad hbad] at r9
        obtain ⟨e9, rfl, he9⟩ := r9
        walk_at "z"
        refine ⟨by show 3 ≤ sizeLine; decide, fun D hD => ?_⟩
        have sD : Same H9 (upd H9 D (.lst (erL 0))) := Same.new hD
        walk_at "z"
        refine ⟨lk_er (sD _ _ he9) upd_same, fun H10 s10 => ?_⟩
        have sf := (s9.trans sD).trans s10
        exact same _ (hj7.ex' sf) (f7.trans (Fix.of sf))
      have hbad : ¬ bad p b := fun z => by rw [badB_iff.mpr z] at e; cases e
      have hnz : ¬ nzero (num p b) := fun z => hbad (nz_num.mp z)
      walk_at "z"
      refine ⟨hp, fun v1 H9 s9 r1 => ?_⟩
      walk_at "z"
      refine ⟨hp, fun v2 H10 s10 r2 => ?_⟩
      walk_at "z"
      refine ⟨p, v2, _, rfl, hp, nok_num hp, sz_num hb, hnz, r2, fun v3 H11 s11 r3 => ?_⟩
      walk_at "z"
      refine ⟨p, v1, v3, _, _, rfl, hp, nok_num hp, nok_inv hp (nok_num hp) hnz, sz_num ha, sz_inv (nok_num hp) (sz_num hb) hnz, r1.ex (s10.trans s11), r3, fun v4 H12 s12 r4 => ?_⟩
      rw [num_eq hbad] at r4
      have s8 := ((s9.trans s10).trans s11).trans s12
      walk_at "z"
      refine ⟨g, p, way, a, b, rfl, hp, hg8.ex' s8, hb2, fun v5 H13 s13 r5 => ?_⟩
      rw [numR_ok hbad] at r5
      walk_at "z"
      refine ⟨lk_num r5 (r4.ex s13), fun H14 s14 => ?_⟩
      have sf := (s8.trans s13).trans s14
      have f14 := f7.trans (Fix.of sf)
      walk_at "z"
      refine ⟨.inl ⟨rfl, _, SqL.of' (apl f14)⟩, ?_⟩
      walk_at "z"
      refine ⟨r, _, v4, rfl, rfl, apl f14, by rw [List.length_map, sizeLine_eq]; omega, ?_⟩
      walk_at "z"
      exact grow v4 _ _ (hj7.ex' sf) f14 (r4.ex (s13.trans s14)) (nok_nnum hp hbad) (sz_nnum ha hb hbad)
    walk_at "z"
    refine ifb (fun e2 => ?_) (fun e2 => ?_)
    · -- kind < 9
      walk_at "z"
      refine ⟨p, kind - 4, vx, vy, nx, ny, rfl, hp, okx, oky, zx, zy, rx, ry, fun v H3 s3 r3 => ?_⟩
      walk_at "z"
      refine ⟨g, p, kind - 4, vx, vy, nx, ny, rfl, hp, hg2.ex' s3, okx, oky, zx, zy, rx.ex s3, ry.ex s3, fun v' H4 s4 r4 => ?_⟩
      walk_at "z"
      refine ⟨lk_rr r4 (r3.ex s4), fun H5 s5 => ?_⟩
      have s25 := (s3.trans s4).trans s5
      have f25 : Fix [j, gr] H2 H5 := Fix.of s25
      have hj5 := hj2.ex' s25
      have r5 := r3.ex (s4.trans s5)
      have done := same H5 hj5 f25
      walk_at "z"
      refine ifb (fun e8 => ?_) (fun e8 => ?_)
      · walk_at "z"
        exact done
      have k8 : kind ≠ 8 := by simpa using e8
      have k4 : ¬ kind < 4 := of_decide_eq_false e
      have k9 : kind < 9 := of_decide_eq_true e2
      walk_at "z"
      generalize hw : worked p (kind - 4) nx ny = res at r5
      cases res with
      | bl b => exact absurd (worked_bl (by omega) (by omega) hw) (by omega)
      | er n =>
        obtain ⟨e5, rfl, he5⟩ := r5
        refine ⟨_, _, _, _, true, rfl, .ty _, .base (.lst he5), rfl, ?_⟩
        walk_at "z"
        exact done
      | nm m =>
        obtain ⟨okm, bgm⟩ := worked_nm hp okx oky zx zy hw
        have r5 : RN H5 v m := r5
        obtain ⟨ty, hty, hk⟩ : ∃ t, TyX K H5 v t ∧ PySem.W.kitOne K t (.type "list") = some false := by
          cases m with
          | r n =>
            obtain rfl : v = .int n := r5
            exact ⟨_, .base (.int _), rfl⟩
          | q t b =>
            obtain ⟨a, rfl, ha⟩ := r5
            exact ⟨_, .base (.tup ha), rfl⟩
        walk_at "z"
        refine ⟨_, _, _, _, false, rfl, .ty _, hty, hk, ?_⟩
        walk_at "z"
        refine ⟨p, v, m, rfl, hp, okm, bgm, r5, ?_⟩
        walk_at "z"
        refine ifb (fun e9 => ?_) (fun e9 => ?_)
        · have d90 : dg m ≤ 90 := by have z : ((dg m : Nat) : Int) ≤ 90 := of_decide_eq_true e9; omega
          walk_at "z"
          refine ⟨.inl ⟨rfl, _, SqL.of' (apl f25)⟩, ?_⟩
          walk_at "z"
          refine ⟨r, _, v, rfl, rfl, apl f25, by rw [List.length_map, sizeLine_eq]; omega, ?_⟩
          walk_at "z"
          exact grow v _ _ hj5 f25 r5 okm (sz_dg d90)
        · walk_at "z"
          exact done
    walk_at "z"
    refine ifb (fun e3 => ?_) (fun e3 => ?_)
    · -- kind < 11
      walk_at "z"
      refine ⟨p, vx, nx, rfl, hp, okx, zx, rx, ?_⟩
      walk_at "z"
      obtain ⟨dx, hgd⟩ := hg2
      refine ⟨_, _, _, rfl, hgd, rfl, ?_⟩
      walk_at "z"
      refine ⟨g, p, vx, nx, rfl, hp, ⟨dx, hgd⟩, okx, zx, rx, ?_⟩
      walk_at "z"
      refine ⟨lk_leaf trivial, fun H3 s3 => ?_⟩
      have rb := read_back hp okx
      have hsl : (shown nx).length ≤ 191 := shown_len okx zx hp
      walk_at "z"
      refine ⟨p, vx, nx, rfl, hp, okx, sz_640 zx, rx.ex s3, ?_⟩
      walk_at "z"
      refine ifb (fun e9 => ?_) (fun e9 => ?_)
      · have d60 : ¬ dg nx ≤ 60 := by have z : (60 : Int) < (dg nx : Nat) := of_decide_eq_true e9; omega
        rw [if_neg d60] at rb
        walk_at "z"
        refine ⟨by show 3 ≤ sizeLine; decide, fun D hD => ?_⟩
        have sD : Same H3 (upd H3 D (.lst (erL 0))) := Same.new hD
        have D1 : upd H3 D (.lst (erL 0)) D = some (.lst (erL 0)) := upd_same
        walk_at "z"
        refine ⟨g, p, shown nx, rfl, hp, ⟨dx, (s3.trans sD) _ _ hgd⟩, by omega, fun v H4 s4 r4 => ?_⟩
        have er : readR p (tl (shown nx)) = .er 0 := by unfold readR; rw [rb]
        rw [er] at r4
        obtain ⟨e4, rfl, he4⟩ := r4
        walk_at "z"
        refine ⟨lk_er he4 (s4 _ _ D1), fun H5 s5 => ?_⟩
        have sf := ((s3.trans sD).trans s4).trans s5
        exact same _ (hj2.ex' sf) (Fix.of sf)
      · have d60 : dg nx ≤ 60 := by have z : ¬ (60 : Int) < (dg nx : Nat) := of_decide_eq_false e9; omega
        rw [if_pos d60] at rb
        walk_at "z"
        refine ⟨g, p, shown nx, rfl, hp, ⟨dx, s3 _ _ hgd⟩, by omega, fun v H4 s4 r4 => ?_⟩
        have er : readR p (tl (shown nx)) = .nm nx := by unfold readR; rw [rb]
        rw [er] at r4
        walk_at "z"
        refine ⟨lk_num r4 (rx.ex (s3.trans s4)), fun H5 s5 => ?_⟩
        have sf := (s3.trans s4).trans s5
        exact same _ (hj2.ex' sf) (Fix.of sf)
    · walk_at "z"
      refine ifb (fun e4 => ?_) (fun e4 => ?_)
      · walk_at "z"
        refine ⟨_, _, rfl, SqL.of' hr3, fun c hc => ?_⟩
        rw [last3]
        have sc : Same H2 (upd H2 c (.lst ((ps.drop (ps.length - 3)).map (·.1)))) := Same.new hc
        refine ⟨g, c, p, ps.drop (ps.length - 3), rfl, hp, hg2.ex' sc, upd_same, (hps2.ex sc).sub fun q hq => List.mem_of_mem_drop hq, drop3_ne h0, by rw [List.length_drop]; omega, fun H3 s3 => ?_⟩
        exact same _ (hj2.ex' (sc.trans s3)) (Fix.of (sc.trans s3))
      · walk_at "z"
        refine ⟨_, _, rfl, SqL.of' hr3, fun c hc => ?_⟩
        rw [last3]
        have sc : Same H2 (upd H2 c (.lst ((ps.drop (ps.length - 3)).map (·.1)))) := Same.new hc
        have ncj : c ≠ j := fun z => by
          obtain ⟨_, _, _, gs, ss, t, st, e1, e2, _⟩ := hj2
          rw [z, e1] at hc
          cases hc
        have ncg : c ≠ gr := fun z => by
          obtain ⟨_, _, _, gs, ss, t, st, e1, e2, _⟩ := hj2
          rw [z, e2] at hc
          cases hc
        refine ⟨j, gr, sm, g, c, p, ps.drop (ps.length - 3), rfl, hj2.ex' sc, hp, hg2.ex' sc, upd_same, ncj, ncg, (hps2.ex sc).sub fun q hq => List.mem_of_mem_drop hq, by rw [List.length_drop]; omega, fun H3 hj3 f3 => ?_⟩
        exact same _ hj3 ((Fix.of sc).trans f3)
end

/-! ### _law_bound -/
theorem dl_gt {n k : Nat} (h : 10 ^ k ≤ n) : k < dl n := Nat.lt_of_not_le fun z => by
  have := dl_lt z
  omega
theorem low_sign {s n : Int} (hs : s = 1 ∨ s = -1) (hn : 0 < n) : Low s n := by
  refine ⟨hn, ?_⟩
  rcases hs with z | z
  · rw [z, Int.one_gcd]
  · rw [z, Int.neg_gcd, Int.one_gcd]
section
variable {P : Program} {w : World} {K : PySem.W.Frag} {mg : Str → Option Value} {base : Heap}
def spBound (K : PySem.W.Frag) : Sp := fun vs H Q _ => ∃ (j gr sm g : Addr), vs = [.ref j, .ref g] ∧ JarAt H j gr sm ∧ GroundAt K H g none ∧ ∀ H', Fix [j, gr] H H' → Q (.bl true) H'
theorem sc__law_bound : FnScope ["jar", "ground", "n", "k", "sign", "words", "good", "long", "x"] ["jar", "ground"] (defScope s__law_bound) := ⟨rfl, rfl, rfl, by decide +kernel, rfl, by decide +kernel, by decide +kernel⟩
theorem ok__law_bound (T : Tx K mg) : Fk P w K mg base CX0 8 (He.fAd K d__law_bound.at_) ["jar", "ground"] [] (spBound K) := by
  obtain ⟨fd, F⟩ := T.D__law_bound
  refine ⟨fd, [], FunD.ok F sc__law_bound (fun vs H Q E h => ?_) (fun cdv A outer s H vs Q E hr h => ?_), F.bindsN (fun _ _ _ _ _ _ us hl => match us, hl with | [_, _], _ => rfl), .nil, F.kp⟩
  · obtain ⟨j, gr, sm, g, rfl, _⟩ := h
    rfl
  · obtain ⟨j, gr, sm, g, rfl, hj, hg, k⟩ := h
    refine ⟨_, PSs.nox (pss_cons (ps_set (i := 2) sc__law_bound.nd rfl (Or.inl rfl) (pe_op op_add pe_int (qcall ((ok__law_take T).mono (by decide)) hr T.g__law_take pass0 (pa_cons (pv 0) (pa_cons pe_int pa_nil)))))
      (C8.pss_cut (ps_for PassesOwn.never rfl (pi_range1 (by rfl) T.f_range (pa_cons pe_int pa_nil)) (pg_name (i := 3) sc__law_bound.nd rfl (Or.inl rfl)) (pss_one (ps_set (i := 2) sc__law_bound.nd rfl (Or.inl rfl) (pe_op op_add (pe_op op_mul (pv 2) pe_int) (qcall ((ok__law_take T).mono (by decide)) hr T.g__law_take pass0 (pa_cons (pv 0) (pa_cons pe_int pa_nil)))))))
      (pss_cons (ps_set (i := 4) sc__law_bound.nd rfl (Or.inl rfl) (qcall ((ok__law_pick T).mono (by decide)) hr T.g__law_pick pass0 (pa_cons (pv 0) (pa_cons (pe_lst (pa_cons pe_int (pa_cons (pe_un un_neg pe_int) pa_nil))) pa_nil))))
      (pss_cons (ps_par (i := 6) (j := 7) (by rfl) sc__law_bound.nd rfl rfl (by decide) rfl rfl (pa_cons (pe_tup (pa_cons (pe_op op_mul (pv 4) (pv 2)) (pa_cons pe_int pa_nil))) (pa_cons (pe_tup (pa_cons (pe_op op_mul (pv 4) (pe_op op_add (pe_op op_mul pe_int (pv 2)) pe_int)) (pa_cons pe_int pa_nil))) pa_nil)) (by rfl))
      (C8.pss_cut (ps_if (pt_cmpR op_eq (qcall ((ok__law_take T).mono (by decide)) hr T.g__law_take pass0 (pa_cons (pv 0) (pa_cons pe_int pa_nil))) pe_int (nomark _)) (pss_one (ps_par (i := 6) (j := 7) (by rfl) sc__law_bound.nd rfl rfl (by decide) rfl rfl (pa_cons (qcall ((ok__law_fraction T).mono (by decide)) hr T.g__law_fraction pass0 (pa_cons (pv 4) (pa_cons (pv 2) pa_nil))) (pa_cons (qcall ((ok__law_fraction T).mono (by decide)) hr T.g__law_fraction pass0 (pa_cons (pv 4) (pa_cons (pe_op op_add (pe_op op_mul pe_int (pv 2)) pe_int) pa_nil))) pa_nil)) (by rfl))) pss_nil)
      (pss_cons (ps_setLc (i := 5) (own := [("x", 8)]) (by rfl) sc__law_bound.nd rfl rfl (sw_true rfl rfl rfl (by decide +kernel)) (pi_tup (pe_tup (pa_cons (pv 6) (pa_cons (pv 7) pa_nil)))) (blkOk_by (N := ["jar", "ground", "n", "k", "sign", "words", "good", "long", "x"]) (own := [("x", 8)]) (sc := defScope s__law_bound) (by decide +kernel)) (fun _ _ _ _ _ => (pg_name (i := 8) sc__law_bound.nd rfl (Or.inl rfl))) (fun _ _ _ _ _ => pts_nil) (fun _ _ _ _ _ => (qcall ((ok__law_shown T).mono (by decide)) hr T.g__law_shown pass0 (pa_cons pe_non (pa_cons (pv 8) pa_nil)))))
      (pss_cons (ps_if (PW.pt (pw_or (pt_not (pt_val (qcall ((ok__law_like T).mono (by decide)) hr T.g__law_like pass0 (pa_cons (qmeth ((ok_Ground_show T).mono (by decide)) hr T.c_Ground T.m_Ground_show pass0 (pv 1) (pa_cons (pv 6) pa_nil)) (pa_cons (pe_ix ix_list (pv 5) pe_int (fun _ _ => rfl)) pa_nil))))) (pw_or1 (pt_not (pt_val (qcall ((ok__law_like T).mono (by decide)) hr T.g__law_like pass0 (pa_cons (qmeth ((ok_Ground_show T).mono (by decide)) hr T.c_Ground T.m_Ground_show pass0 (pv 1) (pa_cons (pv 7) pa_nil)) (pa_cons (pe_ix ix_list (pv 5) pe_int (fun _ _ => rfl)) pa_nil)))))))) (pss_one (ps_ret pe_bl)) pss_nil)
      (pss_cons (ps_if (PW.pt (pw_or (pt_not (pt_val (qcall ((ok__law_like T).mono (by decide)) hr T.g__law_like pass0 (pa_cons (qcall ((ok__law_read T).mono (by decide)) hr T.g__law_read pass0 (pa_cons (pv 1) (pa_cons (pe_ix ix_list (pv 5) pe_int (fun _ _ => rfl)) pa_nil))) (pa_cons (pv 6) pa_nil))))) (pw_or1 (pt_not (pt_val (qcall ((ok__law_like T).mono (by decide)) hr T.g__law_like pass0 (pa_cons (qcall ((ok__law_read T).mono (by decide)) hr T.g__law_read pass0 (pa_cons (pv 1) (pa_cons (pe_ix ix_list (pv 5) pe_int (fun _ _ => rfl)) pa_nil))) (pa_cons (pe_lst (pa_cons pe_str (pa_cons pe_int (pa_cons pe_bl pa_nil)))) pa_nil)))))))) (pss_one (ps_ret pe_bl)) pss_nil)
      (pss_one (ps_ret (pe_and (qcall ((ok__law_asks_row T).mono (by decide)) hr T.g__law_asks_row pass0 (pa_cons (pv 1) (pa_cons pe_non (pa_cons (pe_lst (pa_cons (pv 6) (pa_cons (pe_tup (pa_cons pe_int (pa_cons pe_int pa_nil))) (pa_cons (pv 7) pa_nil)))) pa_nil)))) (pe_one (qcall ((ok__law_asks_row T).mono (by decide)) hr T.g__law_asks_row pass0 (pa_cons (pv 1) (pa_cons pe_non (pa_cons (pe_lst (pa_cons (pv 6) (pa_cons (pv 6) pa_nil))) pa_nil)))))))))))))))), ?_⟩
    walk_at "z"
    refine ⟨j, gr, sm, _, rfl, by decide, by decide, hj, fun n0 H1 a0 a1 hj1 f1 => ?_⟩
    walk_at "z"
    refine ⟨fun σ H2 => ∃ (n : Int) (v : Option V), σ = [some (.ref j), some (.ref g), some (.int n), v, none, none, none, none, none] ∧ 10 ^ 59 ≤ n ∧ n < 10 ^ 60 ∧ JarAt H2 j gr sm ∧ Fix [j, gr] H H2, ?_, ?_⟩
    · refine ⟨_, rfl, by decide, by decide, for_range (n := 59) (fun i σ H2 => ∃ (n : Int) (v : Option V), σ = [some (.ref j), some (.ref g), some (.int n), v, none, none, none, none, none] ∧ 10 ^ i ≤ n ∧ n < 10 ^ (i + 1) ∧ JarAt H2 j gr sm ∧ Fix [j, gr] H H2)
        ⟨1 + n0, none, rfl, by show (1 : Int) ≤ _; omega, by show _ < (10 : Int); omega, hj1, f1⟩ ?_ ?_⟩
      · rintro i σ H3 hi ⟨n, v, rfl, n1, n2, hj3, f3⟩
        walk_at "z"
        refine ⟨.inr ⟨by decide, by decide⟩, ?_⟩
        walk_at "z"
        refine ⟨j, gr, sm, _, rfl, by decide, by decide, hj3, fun r H4 r0 r1 hj4 f4 => ?_⟩
        have e1 : (10 : Int) ^ (i + 1) = 10 ^ i * 10 := Int.pow_succ _ _
        have e2 : (10 : Int) ^ (i + 1 + 1) = 10 ^ (i + 1) * 10 := Int.pow_succ _ _
        exact ⟨_, _, rfl, rfl, n * 10 + r, _, rfl, by omega, by omega, hj4, f3.trans f4⟩
      · rintro σ H3 ⟨n, v, rfl, n1, n2, hj3, f3⟩
        exact ⟨n, v, rfl, n1, n2, hj3, f3⟩
    rintro σ H2 ⟨n, v3, rfl, n1, n2, hj2, f2⟩
    have n1' : (100000000000000000000000000000000000000000000000000000000000 : Int) ≤ n := n1
    have n2' : n < (1000000000000000000000000000000000000000000000000000000000000 : Int) := n2
    -- sign
    walk_at "z"
    refine ⟨by show 2 ≤ sizeLine; decide, fun E1 hE => ?_⟩
    have sE : Same H2 (upd H2 E1 (.lst [.int 1, .int (-1)])) := Same.new hE
    have E2 : upd H2 E1 (.lst [.int 1, .int (-1)]) E1 = some (.lst [.int 1, .int (-1)]) := upd_same
    have nE : E1 ≠ j ∧ E1 ≠ gr := by
      obtain ⟨_, _, _, gs, ss, t, st, e1, e2, _⟩ := hj2
      refine ⟨fun e => ?_, fun e => ?_⟩
      · rw [e, e1] at hE
        cases hE
      · rw [e, e2] at hE
        cases hE
    walk_at "z"
    refine ⟨j, gr, sm, E1, [.int 1, .int (-1)], rfl, hj2.ex' sE, E2, nE.1, nE.2, by simp, by show 2 ≤ 1000; decide, fun v H3 hv hj3 f3 => ?_⟩
    obtain ⟨s, rfl, hs⟩ : ∃ s : Int, v = .int s ∧ (s = 1 ∨ s = -1) := by
      rcases List.mem_cons.mp hv with z | z
      · exact ⟨1, z, .inl rfl⟩
      · exact ⟨-1, by simpa using z, .inr rfl⟩
    have f03 := (f2.trans (Fix.of sE)).trans f3
    have s64 : -(2 ^ 64) < s ∧ s < 2 ^ 64 := by omega
    walk_at "z"
    refine ⟨.inl s64, ?_⟩
    walk_at "z"
    refine ⟨by show 2 ≤ sizeLine; decide, fun a1 ha1 => ?_⟩
    have t1 : Same H3 (upd H3 a1 (.tup [.int (s * n), .int 1])) := Same.new ha1
    have v1 : upd H3 a1 (.tup [.int (s * n), .int 1]) a1 = some (.tup [.int (s * n), .int 1]) := upd_same
    generalize upd H3 a1 (.tup [.int (s * n), .int 1]) = H4 at *
    walk_at "z"
    refine ⟨.inl ⟨by decide, by decide⟩, ?_⟩
    walk_at "z"
    refine ⟨.inl s64, ?_⟩
    walk_at "z"
    refine ⟨by show 2 ≤ sizeLine; decide, fun a2 ha2 => ?_⟩
    have t2 : Same H4 (upd H4 a2 (.tup [.int (s * (10 * n + 1)), .int 1])) := Same.new ha2
    have v2 : upd H4 a2 (.tup [.int (s * (10 * n + 1)), .int 1]) a2 = some (.tup [.int (s * (10 * n + 1)), .int 1]) := upd_same
    have v12 := t2 _ _ v1
    generalize upd H4 a2 (.tup [.int (s * (10 * n + 1)), .int 1]) = H5 at *
    have hj5 := (hj3.ex' t1).ex' t2
    have f05 := (f03.trans (Fix.of t1)).trans (Fix.of t2)
    have en1 : (s * n).natAbs = n.natAbs := by rcases hs with z | z <;> rw [z, Int.natAbs_mul] <;> simp
    have en2 : (s * (10 * n + 1)).natAbs = (10 * n + 1).natAbs := by rcases hs with z | z <;> rw [z, Int.natAbs_mul] <;> simp
    have d1 : dl n.natAbs ≤ 60 := dl_le (by decide) (by omega)
    have d2 : 60 < dl (10 * n + 1).natAbs := dl_gt (by omega)
    have z1 : n.natAbs < 2 ^ 310 := Nat.lt_of_lt_of_le (show n.natAbs < 10 ^ 62 by omega) (by decide)
    have z2 : (10 * n + 1).natAbs < 2 ^ 310 := Nat.lt_of_lt_of_le (show (10 * n + 1).natAbs < 10 ^ 62 by omega) (by decide)
    walk_at "z"
    refine ⟨fun σ H6 => ∃ (vg vl : V) (ng nl : Nm), σ = [some (.ref j), some (.ref g), some (.int n), v3, some (.int s), none, some vg, some vl, none] ∧ JarAt H6 j gr sm ∧ Fix [j, gr] H H6 ∧ RN H6 vg ng ∧ NOk none ng ∧ Sz ng ∧ dg ng ≤ 60 ∧ RN H6 vl nl ∧ NOk none nl ∧ Sz nl ∧ 60 < dg nl, ?_, ?_⟩
    · have hz1 := lt_2900 (Nat.lt_of_lt_of_le z1 (Nat.pow_le_pow_right (by decide) (by decide)))
      have hz2 := lt_2900 (Nat.lt_of_lt_of_le z2 (Nat.pow_le_pow_right (by decide) (by decide)))
      have es : s.natAbs = 1 := by omega
      walk_at "z"
      refine ⟨j, gr, sm, _, rfl, by decide, by decide, hj5, fun c H6 c0 c1 hj6 f6 => ?_⟩
      have f06 := f05.trans f6
      walk_at "z"
      refine ifb (fun e => ?_) (fun e => ?_)
      · walk_at "z"
        refine ⟨by omega, hz1, fun u1 H7 s7 r7 => ?_⟩
        have l1 := low_sign hs (n := n) (by omega)
        have l2 := low_sign hs (n := 10 * n + 1) (by omega)
        rw [frac_self l1] at r7
        walk_at "z"
        refine ⟨.inl ⟨by decide, by decide⟩, ?_⟩
        walk_at "z"
        refine ⟨by omega, hz2, fun u2 H8 s8 r8 => ?_⟩
        rw [frac_self l2] at r8
        walk_at "z"
        refine ⟨u1, u2, .q s n, .q s (10 * n + 1), rfl, (hj6.ex' s7).ex' s8, (f06.trans (Fix.of s7)).trans (Fix.of s8), r7.ex s8, l1, ⟨by rw [es]; decide, z1⟩, ?_, r8, l2, ⟨by rw [es]; decide, z2⟩, ?_⟩
        · show max (dl s.natAbs) (dl n.natAbs) ≤ 60
          rw [es, one_digit]
          omega
        · show 60 < max (dl s.natAbs) (dl (10 * n + 1).natAbs)
          omega
      · walk_at "z"
        refine ⟨.ref a1, .ref a2, .q (s * n) 1, .q (s * (10 * n + 1)) 1, rfl, hj6, f06, ⟨a1, rfl, f6.tup v12⟩, ⟨by decide, Int.gcd_one_right _⟩, ⟨by rw [en1]; exact z1, by decide⟩, ?_, ⟨a2, rfl, f6.tup v2⟩, ⟨by decide, Int.gcd_one_right _⟩, ⟨by rw [en2]; exact z2, by decide⟩, ?_⟩
        · show max (dl (s * n).natAbs) (dl 1) ≤ 60
          rw [en1, one_digit]
          omega
        · show 60 < max (dl (s * (10 * n + 1)).natAbs) (dl 1)
          rw [en2]
          omega
    clear v1 v2 v12
    rintro σ H6 ⟨vg, vl, ng, nl, rfl, hj6, f06, rg, okg, zg, dgg, rl, okl, zl, dll⟩
    have hg6 := hg.fix f06
    have hps : GNs none H6 [(vg, ng), (vl, nl)] := fun q hq => by
      rcases List.mem_cons.mp hq with z | z
      · rw [z]
        exact ⟨rg, okg, zg⟩
      · have : q = (vl, nl) := by simpa using z
        rw [this]
        exact ⟨rl, okl, zl⟩
    walk_at "z"
    refine ⟨by show 2 ≤ sizeLine; decide, fun T0 hT => ?_⟩
    have sT : Same H6 (upd H6 T0 (.tup [vg, vl])) := Same.new hT
    have T1 : upd H6 T0 (.tup [vg, vl]) T0 = some (.tup [vg, vl]) := upd_same
    generalize upd H6 T0 (.tup [vg, vl]) = H7 at *
    walk_at "z"
    refine ⟨⟨_, SqT.of' T1⟩, fun D hD => ?_⟩
    refine lc_flatT (fun q : V × Nm => q.1) (fun q => V.str (shown q.2)) (fun _ => true) [(vg, ng), (vl, nl)] hD (SqT.of' T1) (by show 2 < 1000000; decide) (fun x H8 acc Nx hx s8 h8 l8 k1 k2 => ?_) (fun H8 s8 h8 => ?_)
    · obtain ⟨v, m⟩ := x
      obtain ⟨r1, n1, z1⟩ := (hps.ex (sT.trans s8)) _ hx
      walk_at "z"
      refine ⟨.none, v, m, rfl, trivial, n1, z1, r1, ?_⟩
      exact ⟨acc, h8, l8, k1 _ rfl (Same.refl _)⟩
    have h8 : H8 D = some (.lst [.str (shown ng), .str (shown nl)]) := h8
    have s68 := sT.trans s8
    obtain ⟨dx, hgd⟩ := hg6
    have lg : (shown ng).length ≤ 191 := shown_len (p := .none) okg zg trivial
    have ll : (shown nl).length ≤ 191 := shown_len (p := .none) okl zl trivial
    have rbg := read_back (p := .none) trivial okg
    have rbl := read_back (p := .none) trivial okl
    rw [if_pos dgg] at rbg
    rw [if_neg (by omega)] at rbl
    walk_at "z"
    refine ⟨_, _, _, rfl, s68 _ _ hgd, rfl, ?_⟩
    walk_at "z"
    refine ⟨g, .none, vg, ng, rfl, trivial, ⟨dx, s68 _ _ hgd⟩, okg, zg, rg.ex s68, ?_⟩
    walk_at "z"
    refine ⟨_, _, _, _, rfl, rfl, SqL.of' h8, at_of (j := 0) rfl rfl, ?_⟩
    walk_at "z"
    refine ⟨lk_leaf trivial, fun H9 s9 => ?_⟩
    have s69 := s68.trans s9
    walk_at "z"
    refine ⟨_, _, _, rfl, s69 _ _ hgd, rfl, ?_⟩
    walk_at "z"
    refine ⟨g, .none, vl, nl, rfl, trivial, ⟨dx, s69 _ _ hgd⟩, okl, zl, rl.ex s69, ?_⟩
    walk_at "z"
    refine ⟨_, _, _, _, rfl, rfl, SqL.of' (s9 _ _ h8), at_of (j := 1) rfl rfl, ?_⟩
    walk_at "z"
    refine ⟨lk_leaf trivial, fun H10 s10 => ?_⟩
    have s6a := s69.trans s10
    have h10 := (s9.trans s10) _ _ h8
    walk_at "z"
    refine ⟨_, _, _, _, rfl, rfl, SqL.of' h10, at_of (j := 0) rfl rfl, ?_⟩
    refine ⟨g, .none, shown ng, rfl, trivial, ⟨dx, s6a _ _ hgd⟩, by omega, fun v H11 s11 r11 => ?_⟩
    have er : readR .none (tl (shown ng)) = .nm ng := by unfold readR; rw [rbg]
    rw [er] at r11
    walk_at "z"
    refine ⟨lk_num r11 (rg.ex (s6a.trans s11)), fun H12 s12 => ?_⟩
    have s6c := (s6a.trans s11).trans s12
    walk_at "z"
    refine ⟨_, _, _, _, rfl, rfl, SqL.of' ((s11.trans s12) _ _ h10), at_of (j := 1) rfl rfl, ?_⟩
    refine ⟨g, .none, shown nl, rfl, trivial, ⟨dx, s6c _ _ hgd⟩, by omega, fun v H13 s13 r13 => ?_⟩
    have er : readR .none (tl (shown nl)) = .er 0 := by unfold readR; rw [rbl]
    rw [er] at r13
    obtain ⟨e13, rfl, he13⟩ := r13
    walk_at "z"
    refine ⟨by show 3 ≤ sizeLine; decide, fun D2 hD2 => ?_⟩
    have sD2 : Same H13 (upd H13 D2 (.lst (erL 0))) := Same.new hD2
    walk_at "z"
    refine ⟨lk_er (sD2 _ _ he13) upd_same, fun H14 s14 => ?_⟩
    have s6e := ((s6c.trans s13).trans sD2).trans s14
    -- the rows
    walk_at "z"
    refine ⟨by show 2 ≤ sizeLine; decide, fun t0 ht0 => ?_⟩
    have st : Same H14 (upd H14 t0 (.tup [.int 0, .int 1])) := Same.new ht0
    have t1 : upd H14 t0 (.tup [.int 0, .int 1]) t0 = some (.tup [.int 0, .int 1]) := upd_same
    generalize upd H14 t0 (.tup [.int 0, .int 1]) = H15 at *
    walk_at "z"
    refine ⟨by show 3 ≤ sizeLine; decide, fun b1 hb1 => ?_⟩
    have sb : Same H15 (upd H15 b1 (.lst [vg, .ref t0, vl])) := Same.new hb1
    have s6f := (s6e.trans st).trans sb
    walk_at "z"
    refine ⟨g, b1, .none, [(vg, ng), (.ref t0, .q 0 1), (vl, nl)], rfl, trivial, ⟨dx, s6f _ _ hgd⟩, upd_same, fun q hq => ?_, by simp, by show 3 ≤ 1000; decide, fun H16 s16 => ?_⟩
    · rcases List.mem_cons.mp hq with z | z
      · rw [z]
        exact ⟨rg.ex s6f, okg, zg⟩
      · rcases List.mem_cons.mp z with z | z
        · rw [z]
          exact ⟨⟨t0, rfl, sb _ _ t1⟩, ⟨by decide, by decide⟩, ⟨by decide, by decide⟩⟩
        · have : q = (vl, nl) := by simpa using z
          rw [this]
          exact ⟨rl.ex s6f, okl, zl⟩
    have s6g := s6f.trans s16
    walk_at "z"
    refine ⟨by show 2 ≤ sizeLine; decide, fun c1 hc1 => ?_⟩
    have sc := s6g.trans (Same.new (o := .lst [vg, vg]) hc1)
    walk_at "z"
    refine ⟨g, c1, .none, [(vg, ng), (vg, ng)], rfl, trivial, ⟨dx, sc _ _ hgd⟩, upd_same, fun q hq => ?_, by simp, by show 2 ≤ 1000; decide, fun H17 s17 => ?_⟩
    · have : q = (vg, ng) := by simpa using hq
      rw [this]
      exact ⟨rg.ex sc, okg, zg⟩
    exact k _ (f06.trans (Fix.of (sc.trans s17)))
end

/-! ### law -/
theorem JarAt.ne {H : Hp} {j gr sm z : Addr} (hj : JarAt H j gr sm) (hz : H z = none) : z ≠ j ∧ z ≠ gr ∧ z ≠ sm := by
  obtain ⟨_, _, _, gs, ss, t, st, e1, e2, e3, _⟩ := hj
  refine ⟨fun e => ?_, fun e => ?_, fun e => ?_⟩
  · rw [e, e1] at hz
    cases hz
  · rw [e, e2] at hz
    cases hz
  · rw [e, e3] at hz
    cases hz
theorem prime_by {p : Nat} (h2 : 2 ≤ p) (h : ((List.range p).all fun d => decide (d < 2) || decide (p % d ≠ 0)) = true) : Prime p := ⟨h2, fun d h1 h3 => by
  have := List.all_eq_true.mp h d (List.mem_range.mpr h3)
  rcases Bool.or_eq_true_iff.mp this with z | z
  · have := of_decide_eq_true z
    omega
  · exact of_decide_eq_true z⟩
/-- what the law draws -/
def AP (p : Option Int) : Prop := GdOk p ∧ p ≠ some 17
theorem ap_none : AP none := ⟨trivial, fun z => by cases z⟩
theorem ap_some {n : Nat} (h3 : 3 ≤ n) (h4 : n ≤ 10007) (h17 : n ≠ 17) (h : ((List.range n).all fun d => decide (d < 2) || decide (n % d ≠ 0)) = true) : AP (some (n : Int)) :=
  ⟨⟨n, rfl, prime_by (by omega) h, h3, h4⟩, fun z => by
    have := Option.some.inj z
    omega⟩
theorem ap3 : AP (some 3) := ap_some (n := 3) (by decide) (by decide) (by decide) (by decide +kernel)
theorem ap5 : AP (some 5) := ap_some (n := 5) (by decide) (by decide) (by decide) (by decide +kernel)
theorem ap7 : AP (some 7) := ap_some (n := 7) (by decide) (by decide) (by decide) (by decide +kernel)
theorem ap11 : AP (some 11) := ap_some (n := 11) (by decide) (by decide) (by decide) (by decide +kernel)
theorem ap13 : AP (some 13) := ap_some (n := 13) (by decide) (by decide) (by decide) (by decide +kernel)
theorem ap101 : AP (some 101) := ap_some (n := 101) (by decide) (by decide) (by decide) (by decide +kernel)
theorem ap4999 : AP (some 4999) := ap_some (n := 4999) (by decide) (by decide) (by decide) (by decide +kernel)
theorem ap9973 : AP (some 9973) := ap_some (n := 9973) (by decide) (by decide) (by decide) (by decide +kernel)
theorem ap10007 : AP (some 10007) := ap_some (n := 10007) (by decide) (by decide) (by decide) (by decide +kernel)
theorem gd17 : GdOk (some 17) := ⟨17, rfl, prime_by (by decide) (by decide +kernel), by decide, by decide⟩
theorem pick2 {v : V} (h : v ∈ [V.int 7, .int 11, .int 13, .int 101, .int 4999, .int 9973]) : ∃ p, v = pV p ∧ AP p := by
  rcases List.mem_cons.mp h with z | h
  · exact ⟨some 7, z, ap7⟩
  rcases List.mem_cons.mp h with z | h
  · exact ⟨some 11, z, ap11⟩
  rcases List.mem_cons.mp h with z | h
  · exact ⟨some 13, z, ap13⟩
  rcases List.mem_cons.mp h with z | h
  · exact ⟨some 101, z, ap101⟩
  rcases List.mem_cons.mp h with z | h
  · exact ⟨some 4999, z, ap4999⟩
  · have e : v = V.int 9973 := by simpa using h
    exact ⟨some 9973, e, ap9973⟩
theorem pick1 {v u : V} (hu : ∃ p, u = pV p ∧ AP p) (h : v ∈ [V.non, .non, .int 3, .int 5, .int 10007, u]) : ∃ p, v = pV p ∧ AP p := by
  rcases List.mem_cons.mp h with z | h
  · exact ⟨none, z, ap_none⟩
  rcases List.mem_cons.mp h with z | h
  · exact ⟨none, z, ap_none⟩
  rcases List.mem_cons.mp h with z | h
  · exact ⟨some 3, z, ap3⟩
  rcases List.mem_cons.mp h with z | h
  · exact ⟨some 5, z, ap5⟩
  rcases List.mem_cons.mp h with z | h
  · exact ⟨some 10007, z, ap10007⟩
  · obtain ⟨p, e, hp⟩ := hu
    exact ⟨p, by rw [← e]; simpa using h, hp⟩
theorem line_inj {p q : Option Int} (hp : GdOk p) (hq : GdOk q) (e : lineOf p = lineOf q) : p = q := by
  cases p with
  | none =>
    cases q with
    | none => rfl
    | some q => exact absurd e.symm line_ne
  | some p =>
    cases q with
    | none => exact absurd e line_ne
    | some q =>
      obtain ⟨n, rfl, _⟩ := hp
      obtain ⟨m, rfl, _⟩ := hq
      have h1 : tl (lineOf (some (n : Int))) = tl (Str.ofString "rests ") ++ tl (sInt n) := tl_append _ _
      have h2 : tl (lineOf (some (m : Int))) = tl (Str.ofString "rests ") ++ tl (sInt m) := tl_append _ _
      rw [e, h2] at h1
      have h3 := List.append_cancel_left h1
      rw [tl_sInt_nn (by omega), tl_sInt_nn (by omega), Int.natAbs_natCast, Int.natAbs_natCast] at h3
      have h4 := congrArg NumText.digitsVal h3
      rw [numL_val, numL_val] at h4
      rw [h4]
theorem pv_inj {p q : Option Int} (e : pV p = pV q) : p = q := by
  cases p with
  | none =>
    cases q with
    | none => rfl
    | some q => cases e
  | some p =>
    cases q with
    | none => cases e
    | some q =>
      have : p = q := by injection e
      rw [this]
theorem eq_lines {p q : Option Int} (hp : GdOk p) (hq : GdOk q) : decide (lineOf p = lineOf q) = decide (pV p = pV q) := by
  rw [decide_eq_decide]
  exact ⟨fun e => by rw [line_inj hp hq e], fun e => by rw [pv_inj e]⟩
theorem line17 : lineOf (some 17) = Str.ofString "rests 17" := by decide +kernel
theorem leaf_pv {p : Option Int} : Leaf (pV p) := by
  cases p <;> exact trivial
theorem scal_pv {p q : Option Int} : scal (pV p) (pV q) = true := by
  cases p <;> cases q <;> rfl
theorem made {H H' : Hp} {x dx C : Addr} (hx : H x = none) (hd : H dx = none) (h : ∀ b o, upd (upd H dx (.own x)) x (.ins C dx []) b = some o → b ≠ x → H' b = some o) : Same H H' := fun b o e => by
  have n1 := ne_of_none e hx
  refine h b o ?_ n1
  rw [upd_ne n1, upd_ne (ne_of_none e hd)]
  exact e
/-- what stands while the law steps -/
structure LI (K : PySem.W.Frag) (H : Hp) (j gr sm Pm G S g0 g1 r0 r1 : Addr) (q0 q1 : Option Int) (i : Nat) : Prop where
  jar : JarAt H j gr sm
  hP : H Pm = some (.lst [pV q0, pV q1])
  hG : H G = some (.lst [.ref g0, .ref g1])
  hS : H S = some (.lst [.ref r0, .ref r1])
  g0 : GroundAt K H g0 q0
  g1 : GroundAt K H g1 q1
  s0 : ∃ ps, H r0 = some (.lst (ps.map (·.1))) ∧ GNs q0 H ps ∧ ps ≠ [] ∧ ps.length ≤ 1 + i
  s1 : ∃ ps, H r1 = some (.lst (ps.map (·.1))) ∧ GNs q1 H ps ∧ ps ≠ [] ∧ ps.length ≤ 1 + i
theorem gns_one {p : Option Int} {H : Hp} {v : V} (hp : GdOk p) (r : RN H v (num p 0)) : GNs p H [(v, num p 0)] := fun q hq => by
  have : q = (v, num p 0) := by simpa using hq
  rw [this]
  exact ⟨r, nok_num hp, sz_num (by decide)⟩
section
variable {P : Program} {w : World} {K : PySem.W.Frag} {mg : Str → Option Value} {base : Heap}
def spLaw (K : PySem.W.Frag) : Sp := fun vs H Q _ => ∃ (a : Addr) (ns : List Int), vs = [.ref a] ∧ SqL K H a (ns.map V.int) ∧ ns.length ≤ 63 ∧ ∀ H', Q (.bl true) H'
theorem sc_law : FnScope ["script", "jar", "primes", "k", "grounds", "stacks", "side", "ground", "p"] ["script"] (defScope s_law) := ⟨rfl, rfl, rfl, by decide +kernel, rfl, by decide +kernel, by decide +kernel⟩
theorem ok_lawG (T : Tx K mg) {fd : FuncData} (F : FunD K d_law.name d_law.qual d_law.params d_law.body d_law.scope (d_law.dvs K) (d_law.kws K) (He.fAd K d_law.at_) fd) : FnOk P w K mg base CX0 9 (He.fAd K d_law.at_) fd ["script"] (spLaw K) := by
  skip
  refine FunD.ok F sc_law (fun vs H Q E h => ?_) (fun cdv A outer s H vs Q E hr h => ?_)
  · obtain ⟨a, ns, rfl, _⟩ := h
    rfl
  · obtain ⟨a, ns, rfl, ha, hl, k⟩ := h
    refine ⟨_, PSs.nox (pss_cons (ps_set (i := 1) sc_law.nd rfl (Or.inl rfl) (qcall ((ok__law_jar T).mono (by decide)) hr T.g__law_jar pass0 (pa_cons (pv 0) pa_nil)))
      (pss_cons (ps_set (i := 2) sc_law.nd rfl (Or.inl rfl) (pe_lst pa_nil))
      (C8.pss_cut (ps_for PassesOwn.never rfl (pi_range1 (by rfl) T.f_range (pa_cons pe_int pa_nil)) (pg_name (i := 3) sc_law.nd rfl (Or.inl rfl)) (pss_one (ps_expr (pe_bm PySem.F.plainAttrs_list PySem.F.slot_list_append PySem.F.type_list_append mt_append (pv 2) (pa_cons (qcall ((ok__law_pick T).mono (by decide)) hr T.g__law_pick pass0 (pa_cons (pv 1) (pa_cons (pe_lst (pa_cons pe_non (pa_cons pe_non (pa_cons pe_int (pa_cons pe_int (pa_cons pe_int (pa_cons (qcall ((ok__law_pick T).mono (by decide)) hr T.g__law_pick pass0 (pa_cons (pv 1) (pa_cons (pe_lst (pa_cons pe_int (pa_cons pe_int (pa_cons pe_int (pa_cons pe_int (pa_cons pe_int (pa_cons pe_int pa_nil))))))) pa_nil))) pa_nil))))))) pa_nil))) pa_nil)))))
      (pss_cons (ps_setLc (i := 4) (own := [("p", 8)]) (by rfl) sc_law.nd rfl rfl (sw_true rfl rfl rfl (by decide +kernel)) (pi_list (pv 2)) (blkOk_by (N := ["script", "jar", "primes", "k", "grounds", "stacks", "side", "ground", "p"]) (own := [("p", 8)]) (sc := defScope s_law) (by decide +kernel)) (fun _ _ _ _ _ => (pg_name (i := 8) sc_law.nd rfl (Or.inl rfl))) (fun _ _ _ _ _ => pts_nil) (fun _ _ _ _ _ => (qmake T.k_Ground ((ok_Ground_init T).mono (by decide)) hr T.g_Ground pass0 (pa_cons (qcall ((ok__law_line T).mono (by decide)) hr T.g__law_line pass0 (pa_cons (pv 8) pa_nil)) pa_nil))))
      (pss_cons (ps_setLc (i := 5) (own := [("p", 8)]) (by rfl) sc_law.nd rfl rfl (sw_true rfl rfl rfl (by decide +kernel)) (pi_list (pv 2)) (blkOk_by (N := ["script", "jar", "primes", "k", "grounds", "stacks", "side", "ground", "p"]) (own := [("p", 8)]) (sc := defScope s_law) (by decide +kernel)) (fun _ _ _ _ _ => (pg_name (i := 8) sc_law.nd rfl (Or.inl rfl))) (fun _ _ _ _ _ => pts_nil) (fun _ _ _ _ _ => (pe_lst (pa_cons (qcall ((ok__law_num T).mono (by decide)) hr T.g__law_num pass0 (pa_cons (pv 8) (pa_cons pe_int pa_nil))) pa_nil))))
      (pss_cons (ps_if (pt_not (pt_val (qcall ((ok__law_like T).mono (by decide)) hr T.g__law_like pass0 (pa_cons (pe_cmpR (op_eqO ((ok_Ground_eq T).mono (by decide)) T.m_Ground_eq hr pass0) (pe_ix ix_list (pv 4) pe_int (fun _ _ => rfl)) (pe_ix ix_list (pv 4) pe_int (fun _ _ => rfl)) (nomark _)) (pa_cons (pe_cmpR op_eq (pe_ix ix_list (pv 2) pe_int (fun _ _ => rfl)) (pe_ix ix_list (pv 2) pe_int (fun _ _ => rfl)) (nomark _)) pa_nil))))) (pss_one (ps_ret pe_bl)) pss_nil)
      (C8.pss_cut (ps_for PassesOwn.never rfl (pi_range1 (by rfl) T.f_range (pa_cons (pe_op op_add pe_int (qcall ((ok__law_take T).mono (by decide)) hr T.g__law_take pass0 (pa_cons (pv 1) (pa_cons pe_int pa_nil)))) pa_nil)) (pg_name (i := 3) sc_law.nd rfl (Or.inl rfl)) (pss_cons (ps_set (i := 6) sc_law.nd rfl (Or.inl rfl) (pe_op op_mod (pe_callTy call_int1 (by rfl) T.f_int (by decide +kernel) (pa_cons (pv 3) pa_nil)) pe_int))
      (pss_one (ps_if (pt_not (pt_val (qcall ((ok__law_step T).mono (by decide)) hr T.g__law_step pass0 (pa_cons (pv 1) (pa_cons (pe_ix ix_list (pv 4) (pv 6) (fun _ _ => rfl)) (pa_cons (pe_ix ix_list (pv 2) (pv 6) (fun _ _ => rfl)) (pa_cons (pe_ix ix_list (pv 5) (pv 6) (fun _ _ => rfl)) pa_nil))))))) (pss_one (ps_ret pe_bl)) pss_nil))))
      (pss_cons (ps_for PassesOwn.never rfl (pi_zip (by rfl) T.f_zip (pa_cons (pv 4) (pa_cons (pv 2) pa_nil))) (pg_tupK (K := K) (n := 2) rfl (by rfl) (pgs_cons (pg_name (i := 7) sc_law.nd rfl (Or.inl rfl)) (pgs_cons (pg_name (i := 8) sc_law.nd rfl (Or.inl rfl)) pgs_nil))) (pss_cons (ps_if (PW.pt (pw_or (pt_not (pt_val (qcall ((ok__law_like T).mono (by decide)) hr T.g__law_like pass0 (pa_cons (pe_fld (pv 7) rfl) (pa_cons (qcall ((ok__law_line T).mono (by decide)) hr T.g__law_line pass0 (pa_cons (pv 8) pa_nil)) pa_nil))))) (pw_or1 (pt_not (pt_val (qcall ((ok__law_like T).mono (by decide)) hr T.g__law_like pass0 (pa_cons (pe_fld (pv 7) rfl) (pa_cons (pv 8) pa_nil)))))))) (pss_one (ps_ret pe_bl)) pss_nil)
      (pss_one (ps_if (PW.pt (pw_or (pt_not (pt_val (qcall ((ok__law_like T).mono (by decide)) hr T.g__law_like pass0 (pa_cons (pe_cmpR (op_eqO ((ok_Ground_eq T).mono (by decide)) T.m_Ground_eq hr pass0) (pv 7) (qmake T.k_Ground ((ok_Ground_init T).mono (by decide)) hr T.g_Ground pass0 (pa_cons (qcall ((ok__law_line T).mono (by decide)) hr T.g__law_line pass0 (pa_cons (pv 8) pa_nil)) pa_nil)) (nomark _)) (pa_cons pe_bl pa_nil))))) (pw_or1 (pt_not (pt_val (qcall ((ok__law_like T).mono (by decide)) hr T.g__law_like pass0 (pa_cons (pe_cmpR (op_eqO ((ok_Ground_eq T).mono (by decide)) T.m_Ground_eq hr pass0) (pv 7) (qmake T.k_Ground ((ok_Ground_init T).mono (by decide)) hr T.g_Ground pass0 (pa_cons pe_str pa_nil)) (nomark _)) (pa_cons pe_bl pa_nil)))))))) (pss_one (ps_ret pe_bl)) pss_nil))))
      (pss_one (ps_ret (qcall ((ok__law_bound T).mono (by decide)) hr T.g__law_bound pass0 (pa_cons (pv 1) (pa_cons (qmake T.k_Ground ((ok_Ground_init T).mono (by decide)) hr T.g_Ground pass0 (pa_cons pe_str pa_nil)) pa_nil))))))))))))), ?_⟩
    walk_at "z"
    refine ⟨a, ns, rfl, ha, hl, fun j gr sm H1 _ _ _ _ hj1 => ?_⟩
    walk_at "z"
    refine ⟨by show 0 ≤ sizeLine; decide, fun Pm hP => ?_⟩
    obtain ⟨p1, p2, p3⟩ := hj1.ne hP
    have hj2 := hj1.ex' (Same.new (o := .lst []) hP)
    have hP2 : upd H1 Pm (.lst []) Pm = some (.lst []) := upd_same
    generalize upd H1 Pm (.lst []) = H2 at *
    walk_at "z"
    refine ⟨fun σ H3 => ∃ (qs : List (Option Int)) (v3 : Option V), σ = [some (.ref a), some (.ref j), some (.ref Pm), v3, none, none, none, none, none] ∧ qs.length = 2 ∧ (∀ q ∈ qs, AP q) ∧ JarAt H3 j gr sm ∧ H3 Pm = some (.lst (qs.map pV)), ?_, ?_⟩
    · refine ⟨_, rfl, by decide, by decide, for_range (n := 2) (fun i σ H3 => ∃ (qs : List (Option Int)) (v3 : Option V), σ = [some (.ref a), some (.ref j), some (.ref Pm), v3, none, none, none, none, none] ∧ qs.length = i ∧ (∀ q ∈ qs, AP q) ∧ JarAt H3 j gr sm ∧ H3 Pm = some (.lst (qs.map pV)))
        ⟨[], none, rfl, rfl, fun q hq => absurd hq (by simp), hj2, hP2⟩ ?_ ?_⟩
      · rintro i σ H3 hi ⟨qs, v3, rfl, ql, qa, hj3, hP3⟩
        walk_at "z"
        refine ⟨.inl ⟨rfl, _, SqL.of' hP3⟩, ?_⟩
        walk_at "z"
        refine ⟨by show 6 ≤ sizeLine; decide, fun E1 hE => ?_⟩
        have sE : Same H3 (upd H3 E1 (.lst [V.int 7, .int 11, .int 13, .int 101, .int 4999, .int 9973])) := Same.new hE
        obtain ⟨e1, e2, e3⟩ := hj3.ne hE
        walk_at "z"
        refine ⟨j, gr, sm, E1, [V.int 7, .int 11, .int 13, .int 101, .int 4999, .int 9973], rfl, hj3.ex' sE, upd_same, e1, e2, by simp, by show 6 ≤ 1000; decide, fun u H4 hu hj4 f4 => ?_⟩
        have hP4 := f4.lst (sE _ _ hP3) (by simp [p1, p2])
        walk_at "z"
        refine ⟨by show 6 ≤ sizeLine; decide, fun E2 hE2 => ?_⟩
        have sE2 : Same H4 (upd H4 E2 (.lst [V.non, .non, .int 3, .int 5, .int 10007, u])) := Same.new hE2
        obtain ⟨e4, e5, e6⟩ := hj4.ne hE2
        walk_at "z"
        refine ⟨j, gr, sm, E2, [V.non, .non, .int 3, .int 5, .int 10007, u], rfl, hj4.ex' sE2, upd_same, e4, e5, by simp, by show 6 ≤ 1000; decide, fun v H5 hv hj5 f5 => ?_⟩
        have hP5 := f5.lst (sE2 _ _ hP4) (by simp [p1, p2])
        obtain ⟨q, rfl, hq⟩ := pick1 (pick2 hu) hv
        walk_at "z"
        refine ⟨Pm, _, _, rfl, rfl, hP5, by rw [List.length_map, sizeLine_eq]; omega, ?_⟩
        have fP : Fix [Pm] H5 (upd H5 Pm (.lst (qs.map pV ++ [pV q]))) := Fix.put hP5
        refine ⟨qs ++ [q], _, rfl, by rw [List.length_append, ql]; rfl, fun x hx => ?_, hj5.fix fP (by simp [p1.symm]) (by simp [p2.symm]) (by simp [p3.symm]), ?_⟩
        · rcases List.mem_append.mp hx with hx | hx
          · exact qa x hx
          · have : x = q := by simpa using hx
            rw [this]
            exact hq
        · rw [upd_same, List.map_append]
          rfl
      · rintro σ H3 ⟨qs, v3, rfl, h⟩
        exact ⟨qs, v3, rfl, h⟩
    rintro σ H3 ⟨qs, v3, rfl, ql, qa, hj3, hP3⟩
    obtain ⟨q0, q1, rfl⟩ : ∃ q0 q1, qs = [q0, q1] := match qs, ql with | [q0, q1], _ => ⟨q0, q1, rfl⟩
    have a0 := qa q0 (by simp)
    have a1 := qa q1 (by simp)
    clear qa ql
    have hP3 : H3 Pm = some (.lst [pV q0, pV q1]) := hP3
    -- grounds
    walk_at "z"
    refine ⟨⟨_, SqL.of' hP3⟩, fun G hG => ?_⟩
    refine lc_list (K := K) (a := Pm) (xs := [pV q0, pV q1]) (fun i H' => Same H3 H' ∧ match i with
      | 0 => H' G = some (.lst [])
      | 1 => ∃ g0, H' G = some (.lst [.ref g0]) ∧ GroundAt K H' g0 q0
      | _ => ∃ g0 g1, H' G = some (.lst [.ref g0, .ref g1]) ∧ GroundAt K H' g0 q0 ∧ GroundAt K H' g1 q1) ⟨Same.new hG, upd_same⟩ (fun i H4 _ z => SqL.of' (z.1 _ _ hP3)) (fun i x H4 hi z => ?_) (fun H4 z => ?_)
    · obtain ⟨s4, z⟩ := z
      match i, hi, z with
      | 0, hi, z =>
        cases hi
        walk_at "z"
        refine ⟨a0.1, ?_⟩
        walk_at "z"
        refine fun x dx hx hdx nd => ⟨x, dx, q0, rfl, a0.1, upd_same, fun H5 g5 k5 => ?_⟩
        have s5 := made hx hdx k5
        have z5 := s5 _ _ z
        exact ⟨rfl, [], z5, by rw [sizeLine_eq]; decide, Same.put hG (s4.trans s5), x, upd_same, g5.fix (Fix.put z5)⟩
      | 1, hi, z =>
        cases hi
        obtain ⟨g0, z, hg0⟩ := z
        walk_at "z"
        refine ⟨a1.1, ?_⟩
        walk_at "z"
        refine fun x dx hx hdx nd => ⟨x, dx, q1, rfl, a1.1, upd_same, fun H5 g5 k5 => ?_⟩
        have s5 := made hx hdx k5
        have z5 := s5 _ _ z
        exact ⟨rfl, _, z5, by show 1 < sizeLine; rw [sizeLine_eq]; decide, Same.put hG (s4.trans s5), g0, x, upd_same, (hg0.ex' s5).fix (Fix.put z5), g5.fix (Fix.put z5)⟩
    obtain ⟨s4, g0, g1, hG4, hg0, hg1⟩ := z
    have hj4 := hj3.ex' s4
    have hP4 := s4 _ _ hP3
    obtain ⟨nG1, nG2, nG3⟩ := hj3.ne hG
    -- stacks
    walk_at "z"
    refine ⟨⟨_, SqL.of' hP4⟩, fun S hS => ?_⟩
    obtain ⟨nS1, nS2, nS3⟩ := hj4.ne hS
    refine lc_list (K := K) (a := Pm) (xs := [pV q0, pV q1]) (fun i H' => Same H4 H' ∧ match i with
      | 0 => H' S = some (.lst [])
      | 1 => ∃ r0 v0, H' S = some (.lst [.ref r0]) ∧ H4 r0 = none ∧ r0 ≠ S ∧ H' r0 = some (.lst [v0]) ∧ RN H' v0 (num q0 0)
      | _ => ∃ r0 r1 v0 v1, H' S = some (.lst [.ref r0, .ref r1]) ∧ H4 r0 = none ∧ H4 r1 = none ∧ r0 ≠ r1 ∧ r0 ≠ S ∧ r1 ≠ S ∧ H' r0 = some (.lst [v0]) ∧ H' r1 = some (.lst [v1]) ∧ RN H' v0 (num q0 0) ∧ RN H' v1 (num q1 0)) ⟨Same.new hS, upd_same⟩ (fun i H5 _ z => SqL.of' (z.1 _ _ hP4)) (fun i x H5 hi z => ?_) (fun H5 z => ?_)
    · obtain ⟨s5, z⟩ := z
      match i, hi, z with
      | 0, hi, z =>
        cases hi
        walk_at "z"
        refine ⟨a0.1, fun v H6 s6 r6 => ?_⟩
        walk_at "z"
        refine ⟨by show 1 ≤ sizeLine; decide, fun c hc => ?_⟩
        have sc : Same H6 (upd H6 c (.lst [v])) := Same.new hc
        have z7 := (s6.trans sc) _ _ z
        have ncS : c ≠ S := fun e => by rw [e, s6 _ _ z] at hc; cases hc
        refine ⟨[], z7, by rw [sizeLine_eq]; decide, Same.put hS ((s5.trans s6).trans sc), c, v, upd_same, (s5.trans s6).free hc, ncS, ?_, (r6.ex sc).fix (Fix.put z7)⟩
        rw [upd_ne ncS]
        exact upd_same
      | 1, hi, z =>
        cases hi
        obtain ⟨r0, v0, z, n0, nr0, h0, rn0⟩ := z
        walk_at "z"
        refine ⟨a1.1, fun v H6 s6 r6 => ?_⟩
        walk_at "z"
        refine ⟨by show 1 ≤ sizeLine; decide, fun c hc => ?_⟩
        have sc : Same H6 (upd H6 c (.lst [v])) := Same.new hc
        have z7 := (s6.trans sc) _ _ z
        have ncS : c ≠ S := fun e => by rw [e, s6 _ _ z] at hc; cases hc
        have nc0 : r0 ≠ c := ne_of_none (s6 _ _ h0) hc
        refine ⟨_, z7, by show 1 < sizeLine; rw [sizeLine_eq]; decide, Same.put hS ((s5.trans s6).trans sc), r0, c, v0, v, upd_same, n0, (s5.trans s6).free hc, nc0, nr0, ncS, ?_, ?_, (rn0.ex (s6.trans sc)).fix (Fix.put z7), (r6.ex sc).fix (Fix.put z7)⟩
        · rw [upd_ne nr0]
          exact (s6.trans sc) _ _ h0
        · rw [upd_ne ncS]
          exact upd_same
    obtain ⟨s5, r0, r1, v0, v1, hS5, nr0, nr1, nrr, nrS0, nrS1, hr0, hr1, rn0, rn1⟩ := z
    have hG5 := s5 _ _ hG4
    have hP5 := s5 _ _ hP4
    have hg05 := hg0.ex' s5
    have hg15 := hg1.ex' s5
    have hj5 := hj4.ex' s5
    clear hj1 hj2 hP2 hj3 hP3 hP hS hG
    walk_at "z"
    obtain ⟨dx0, hd0⟩ := hg05
    obtain ⟨dx1, hd1⟩ := hg15
    refine ⟨_, _, _, _, rfl, rfl, SqL.of' hG5, at_of (j := 0) rfl rfl, ?_⟩
    walk_at "z"
    refine ⟨_, _, _, _, rfl, rfl, SqL.of' hG5, at_of (j := 1) rfl rfl, ?_⟩
    refine ⟨g0, g1, _, _, _, _, rfl, rfl, hd0, hd1, ⟨g0, g1, q0, q1, rfl, ⟨dx0, hd0⟩, ⟨dx1, hd1⟩, ?_⟩⟩
    walk_at "z"
    refine ⟨_, _, _, _, rfl, rfl, SqL.of' hP5, at_of (j := 0) rfl rfl, ?_⟩
    walk_at "z"
    refine ⟨_, _, _, _, rfl, rfl, SqL.of' hP5, at_of (j := 1) rfl rfl, ?_⟩
    refine ⟨scal_pv, ?_⟩
    walk_at "z"
    refine ⟨by rw [eq_lines a0.1 a1.1]; exact lk_leaf trivial, fun H6 s6 => ?_⟩
    walk_at "z"
    obtain ⟨x1, x2, x3⟩ := hj4.ne nr0
    obtain ⟨y1, y2, y3⟩ := hj4.ne nr1
    have nPr0 : Pm ≠ r0 := ne_of_none hP4 nr0
    have nPr1 : Pm ≠ r1 := ne_of_none hP4 nr1
    have nGr0 : G ≠ r0 := ne_of_none hG4 nr0
    have nGr1 : G ≠ r1 := ne_of_none hG4 nr1
    refine ⟨fun σ H7 => ∃ (v3 v6 : Option V), σ = [some (.ref a), some (.ref j), some (.ref Pm), v3, some (.ref G), some (.ref S), v6, none, none] ∧ ∃ i, LI K H7 j gr sm Pm G S g0 g1 r0 r1 q0 q1 i, ?_, ?_⟩
    · walk_at "z"
      refine ⟨j, gr, sm, _, rfl, by decide, by decide, hj5.ex' s6, fun t H7 t0 t1 hj7 f7 => ?_⟩
      walk_at "z"
      have f57 : Fix [j, gr] H5 H7 := (Fix.of s6).trans f7
      have l7 : LI K H7 j gr sm Pm G S g0 g1 r0 r1 q0 q1 0 := ⟨hj7, f57.lst hP5 (by simp [p1, p2]), f57.lst hG5 (by simp [nG1, nG2]), f57.lst hS5 (by simp [nS1, nS2]), GroundAt.fix ⟨dx0, hd0⟩ f57, GroundAt.fix ⟨dx1, hd1⟩ f57,
        ⟨[(v0, num q0 0)], f57.lst hr0 (by simp [x1, x2]), (gns_one a0.1 rn0).fix f57, by simp, Nat.le_refl _⟩, ⟨[(v1, num q1 0)], f57.lst hr1 (by simp [y1, y2]), (gns_one a1.1 rn1).fix f57, by simp, Nat.le_refl _⟩⟩
      refine ⟨by omega, by omega, for_range (n := (20 + t).toNat) (fun i σ H8 => ∃ (v3 v6 : Option V), σ = [some (.ref a), some (.ref j), some (.ref Pm), v3, some (.ref G), some (.ref S), v6, none, none] ∧ LI K H8 j gr sm Pm G S g0 g1 r0 r1 q0 q1 i) ⟨_, _, rfl, l7⟩ ?_ ?_⟩
      · rintro i σ H8 hi ⟨v3', v6, rfl, I⟩
        obtain ⟨ps0, hr0, gn0, ne0, le0⟩ := I.s0
        obtain ⟨ps1, hr1, gn1, ne1, le1⟩ := I.s1
        have hi61 : i < 61 := by omega
        have hs : (0 + (i : Int)) % 2 = ((0 : Nat) : Int) ∨ (0 + (i : Int)) % 2 = ((1 : Nat) : Int) := by omega
        walk_at "z"
        refine .inl ⟨_, rfl, ?_⟩
        walk_at "z"
        refine ⟨by show (0 : Int) < 2; decide, ?_⟩
        walk_at "z"
        rcases hs with e | e
        · refine ⟨_, _, _, _, rfl, rfl, SqL.of' I.hG, at_of (j := 0) e rfl, ?_⟩
          walk_at "z"
          refine ⟨_, _, _, _, rfl, rfl, SqL.of' I.hP, at_of (j := 0) e rfl, ?_⟩
          walk_at "z"
          refine ⟨_, _, _, _, rfl, rfl, SqL.of' I.hS, at_of (j := 0) e rfl, ?_⟩
          refine ⟨j, gr, sm, g0, r0, q0, ps0, rfl, I.jar, a0.1, I.g0, hr0, x1, x2, x3, gn0, ne0, by omega, fun ps' H9 hj9 f9 h9 gn9 ne9 le9 => ?_⟩
          walk_at "z"
          exact ⟨hj9, f9.lst I.hP (by simp [p1, p2, nPr0]), f9.lst I.hG (by simp [nG1, nG2, nGr0]), f9.lst I.hS (by simp [nS1, nS2, nrS0.symm]), I.g0.fix f9, I.g1.fix f9, ⟨ps', h9, gn9, ne9, by omega⟩, ⟨ps1, f9.lst hr1 (by simp [y1, y2, nrr.symm]), gn1.fix f9, ne1, by omega⟩⟩
        · refine ⟨_, _, _, _, rfl, rfl, SqL.of' I.hG, at_of (j := 1) e rfl, ?_⟩
          walk_at "z"
          refine ⟨_, _, _, _, rfl, rfl, SqL.of' I.hP, at_of (j := 1) e rfl, ?_⟩
          walk_at "z"
          refine ⟨_, _, _, _, rfl, rfl, SqL.of' I.hS, at_of (j := 1) e rfl, ?_⟩
          refine ⟨j, gr, sm, g1, r1, q1, ps1, rfl, I.jar, a1.1, I.g1, hr1, y1, y2, y3, gn1, ne1, by omega, fun ps' H9 hj9 f9 h9 gn9 ne9 le9 => ?_⟩
          walk_at "z"
          exact ⟨hj9, f9.lst I.hP (by simp [p1, p2, nPr1]), f9.lst I.hG (by simp [nG1, nG2, nGr1]), f9.lst I.hS (by simp [nS1, nS2, nrS1.symm]), I.g0.fix f9, I.g1.fix f9, ⟨ps0, f9.lst hr0 (by simp [x1, x2, nrr]), gn0.fix f9, ne0, by omega⟩, ⟨ps', h9, gn9, ne9, by omega⟩⟩
      · rintro σ H8 ⟨v3', v6, rfl, I⟩
        exact ⟨_, _, rfl, _, I⟩
    rintro σ H8 ⟨v3', v6, rfl, i0, I⟩
    walk_at "z"
    refine ⟨G, Pm, [.ref g0, .ref g1], [pV q0, pV q1], rfl, SqL.of' I.hG, SqL.of' I.hP, RZ.for_zipL (xs := [.ref g0, .ref g1]) (ys := [pV q0, pV q1]) rfl (fun i σ H9 => ∃ (v3 v6 v7 v8 : Option V), σ = [some (.ref a), some (.ref j), some (.ref Pm), v3, some (.ref G), some (.ref S), v6, v7, v8] ∧ Same H8 H9) ⟨_, _, _, _, rfl, Same.refl _⟩ ?_ ?_ ?_⟩
    · rintro i σ H9 ⟨w3, w6, w7, w8, rfl, s9⟩
      exact ⟨SqL.of' (s9 _ _ I.hG), SqL.of' (s9 _ _ I.hP)⟩
    · rintro i x y T0 σ H9 hx hy ⟨w3, w6, w7, w8, rfl, s9⟩ hT
      obtain ⟨g, q, ap, hgq, rfl, rfl⟩ : ∃ (g : Addr) (q : Option Int), AP q ∧ GroundAt K H8 g q ∧ x = .ref g ∧ y = pV q := by
        match i, hx, hy with
        | 0, hx, hy =>
          cases hx
          cases hy
          exact ⟨g0, q0, a0, I.g0, rfl, rfl⟩
        | 1, hx, hy =>
          cases hx
          cases hy
          exact ⟨g1, q1, a1, I.g1, rfl, rfl⟩
      have sT : Same H9 (upd H9 T0 (.tup [.ref g, pV q])) := Same.new hT
      refine ⟨T0, _, rfl, SqT.of' upd_same, rfl, ?_⟩
      have s10 := s9.trans sT
      generalize upd H9 T0 (.tup [.ref g, pV q]) = H10 at *
      obtain ⟨dx, hgd⟩ := hgq.ex' s10
      walk_at "z"
      refine ⟨_, _, _, _, _, rfl, hgd, T.c_Ground, T.n_Ground_line, rfl, ?_⟩
      walk_at "z"
      refine ⟨ap.1, ?_⟩
      walk_at "z"
      refine ⟨lk_leaf trivial, fun H11 s11 => ?_⟩
      walk_at "z"
      refine ⟨_, _, _, _, _, rfl, s11 _ _ hgd, T.c_Ground, T.n_Ground_prime, rfl, ?_⟩
      walk_at "z"
      refine ⟨lk_leaf leaf_pv, fun H12 s12 => ?_⟩
      have hg12 := (s11.trans s12) _ _ hgd
      walk_at "z"
      refine ⟨ap.1, ?_⟩
      walk_at "z"
      refine fun x dx1 hx hdx nd => ⟨x, dx1, q, rfl, ap.1, upd_same, fun H13 g13 k13 => ⟨rfl, ?_⟩⟩
      have s13 := made hx hdx k13
      obtain ⟨dx2, hx13⟩ := g13
      refine ⟨g, x, _, _, _, _, rfl, rfl, s13 _ _ hg12, hx13, ⟨g, x, q, q, rfl, ⟨dx, s13 _ _ hg12⟩, ⟨dx2, hx13⟩, ?_⟩⟩
      walk_at "z"
      rw [decide_eq_true rfl]
      refine ⟨lk_leaf trivial, fun H14 s14 => ?_⟩
      have hg14 := (s13.trans s14) _ _ hg12
      walk_at "z"
      refine fun x dx1 hx hdx nd => ⟨x, dx1, some 17, by rw [line17]; rfl, gd17, upd_same, fun H15 g15 k15 => ⟨rfl, ?_⟩⟩
      have s15 := made hx hdx k15
      obtain ⟨dx3, hx15⟩ := g15
      refine ⟨g, x, _, _, _, _, rfl, rfl, s15 _ _ hg14, hx15, ⟨g, x, q, some 17, rfl, ⟨dx, s15 _ _ hg14⟩, ⟨dx3, hx15⟩, ?_⟩⟩
      walk_at "z"
      rw [decide_eq_false fun e => ap.2 (line_inj ap.1 gd17 e)]
      refine ⟨lk_leaf trivial, fun H16 s16 => ?_⟩
      walk_at "z"
      exact ⟨_, _, _, _, rfl, ((((s10.trans s11).trans s12).trans s13).trans s14).trans (s15.trans s16)⟩
    · rintro σ H9 ⟨w3, w6, w7, w8, rfl, s9⟩
      walk_at "z"
      refine fun x dx1 hx hdx nd => ⟨x, dx1, none, rfl, trivial, upd_same, fun H10 g10 k10 => ⟨rfl, ?_⟩⟩
      have s10 := made hx hdx k10
      exact ⟨j, gr, sm, x, rfl, (I.jar.ex' s9).ex' s10, g10, fun H' _ => k H'⟩
end

/-! ### the head and the end -/
abbrev R : PySem.W.OpenRow := PySem.W.OpenLaw.row PySem.Challenge.rw_twiceless_k00_whole_chain_of_plain_numbe
abbrev hk : PySem.W.Hook := hookX 5 fa fn ex
def ob (s : PySem.W.SharedT) : He.AlD := obsXG 5 fa fn ex (HandSHeadRun.getT s)
theorem ob_eq (s : PySem.W.SharedT) : ob s = hk.obs s.abs := obsXG_eq (HandSHeadRun.getT_eq s)
theorem run (w : World) : HandSHeadRun.RunEqI R (PySem.W.view R.prog [0, lawAt]) hk ob 3000 nm w := by
  unfold HandSHeadRun.RunEqI
  kernel_rfl
theorem lawFacts {P : Program} {w : World} {K : PySem.W.Frag} {h : Heap} {mg : Str → Option Value} {f : Addr} (X : K.In h) (G : h.Ns mainGlobals mg) (hfa : mg ("law" : Str) = some (.ref f)) (c : SaysX fa fn ex K) :
    ∃ fd : FuncData, (∀ (s : Shared) (v : Value), BindsTo s fd ⟨[v], []⟩ [("script", v)]) ∧ ∀ base : Heap, K.In base → base.Ns mainGlobals mg → FnOk P w K mg base CX0 9 f fd ["script"] (spLaw K) := by
  have T := tx_of X G c
  obtain ⟨fd, F⟩ := T.D_law
  have e := hfa.symm.trans T.g_law
  cases e
  have b := FunD.bindsA (ps := ["script"]) F fun _ _ _ _ _ _ us hl => match us, hl with | [_], _ => rfl
  exact ⟨fd, fun s v => b s [v] rfl, fun base _ _ => ok_lawG T F⟩

end K00
open PySem PySem.W PySem.Calls PyProof.Rows
theorem PySem.Challenge.cw_twiceless_k00_whole_chain_of_plain_numbe_holds : PySem.Challenge.rw_twiceless_k00_whole_chain_of_plain_numbe.Holds := by
  w_on; o_law
  refine HandSHeadRun.head_imp (r := OpenLaw.row PySem.Challenge.rw_twiceless_k00_whole_chain_of_plain_numbe) (q := view (OpenLaw.row PySem.Challenge.rw_twiceless_k00_whole_chain_of_plain_numbe).prog [0, K00.lawAt]) (H := K00.hk) (ob := K00.ob) (M := 3000) (loose := K00.nm) (d := HandSHeadRun.topDef (OpenLaw.row PySem.Challenge.rw_twiceless_k00_whole_chain_of_plain_numbe).prog K00.lawAt) (kwd := []) K00.ob_eq
    K00.run (by kernel_rfl) (by kernel_rfl) (by kernel_rfl) (by rfl) (by first | assumption | decide +kernel) (by decide +kernel) ⟨rfl, rfl, rfl, rfl, rfl, by decide +kernel⟩ ?hw ?hc
  case hw => w_witness2
  case hc =>
    refine L2.walk_ofE (l := PySem.Challenge.rw_twiceless_k00_whole_chain_of_plain_numbe) (n := 63) (k := 9) (x := "script") (CX := L2.CX0) rfl (by decide) (by kernel_rfl) ⟨rfl, by decide, by decide⟩ ?F (fun _ _ _ _ z => z)
    intro w mg fa h Y G hmg0
    obtain ⟨K, KX, c⟩ := Y
    have hmg : mg ("law" : PySem.Str) = some (.ref fa) := by
      have e : (HandSHeadRun.topDef (OpenLaw.row PySem.Challenge.rw_twiceless_k00_whole_chain_of_plain_numbe).prog K00.lawAt).name = ("law" : PySem.Str) := by kernel_rfl
      rw [← e]
      exact hmg0
    obtain ⟨fd, hb, hF⟩ := K00.lawFacts (P := (PySem.Challenge.rw_twiceless_k00_whole_chain_of_plain_numbe).prog) (w := w) KX G hmg c
    exact ⟨K, fd, K00.spLaw K, KX, hb, fun H a ns hl _ hS => ⟨a, ns, rfl, hS, hl, fun _ => rfl⟩, hF⟩
