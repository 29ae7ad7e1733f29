import PyProof.Rows.All
import Wide.All
import OpenK.AllK
import Wide.FinOn
import HandS.ForMost
import HandS.ForExc
import HandS.IsInst
import HandS.ExcInit
import HandS.ExcField
import HandS.ExcIs
import HandS.CallSlots
import HandS.HotCalls
import HandS.OwnEq
import HandS.Property
import HandS.Defaults
import HandS.Wide
import HandS.RaiseMore
import HandS.FStr
import HandS.TryMany
import HandS.Flow
import HandS.Evl
import KE.KExcIs
import HandS.ExcValue
import PySem.Challenge.RW_fusenets_k79_classes_of_errors
import HandS.Walk
set_option Elab.async false
set_option linter.all false
set_option maxRecDepth 100000
set_option maxHeartbeats 4000000
/-! Rules that hold of any program: data by their shape, // of ints of any size, repr, ==. -/
namespace Fu
open PySem L2
open PyProof.Rows hiding St

/-- an if whose test is known -/
theorem if_true_of {c : Bool} {A B : Prop} (hc : c = true) (h : A) : if c = true then A else B := by
  rw [if_pos hc]
  exact h
theorem if_false_of {c : Bool} {A B : Prop} (hc : c = false) (h : B) : if c = true then A else B := by
  rw [hc, if_neg Bool.false_ne_true]
  exact h
/-! ### // of two ints, the divisor not 0 and below 2 ^ 9000 -/
section
variable {X : Cx}
theorem op_fdivB : OpR X (binaryOp .FloorDiv) (rI (fun _ j => j ≠ 0 ∧ j.natAbs.log2 < 9000) fun i j => .int (i.fdiv j)) := opI fun _ _ _ _ _ _ _ hc q => floordiv_int hc.1 q (.inl (PyProof.noPylong_of_log2 hc.2))
end

/-! ### data -/
inductive D where
  | non | bl (b : Bool) | int (i : Int) | str (x : Str) | lst (l : List D) | tup (l : List D) | dic | rat (n d : Int)

/-- the fields of a Ratio -/
def rf (n d : Int) : List (Str × V) := putF "own_bottom" (.int d) (putF "own_top" (.int n) [])

mutual
/-- v is the datum d in the heap H (C: the class of Ratios) -/
def At (C : Addr) (H : Hp) : D → V → Prop
  | .non, v => v = .non
  | .bl b, v => v = .bl b
  | .int i, v => v = .int i
  | .str x, v => v = .str x
  | .lst l, v => ∃ a xs, v = .ref a ∧ H a = some (.lst xs) ∧ Ats C H l xs
  | .tup l, v => ∃ a xs, v = .ref a ∧ H a = some (.tup xs) ∧ Ats C H l xs
  | .dic, v => ∃ a, v = .ref a ∧ H a = some (.dK [])
  | .rat n d, v => ∃ a dx, v = .ref a ∧ H a = some (.ins C dx (rf n d))
def Ats (C : Addr) (H : Hp) : List D → List V → Prop
  | [], xs => xs = []
  | d :: l, xs => ∃ x r, xs = x :: r ∧ At C H d x ∧ Ats C H l r
end
mutual
theorem At.ex {C : Addr} {H H' : Hp} (e : Same H H') : ∀ {d : D} {v : V}, At C H d v → At C H' d v
  | .non, _, h => h
  | .bl _, _, h => h
  | .int _, _, h => h
  | .str _, _, h => h
  | .lst l, _, h => by
    obtain ⟨a, xs, hv, ha, hs⟩ := h
    exact ⟨a, xs, hv, e _ _ ha, Ats.ex e hs⟩
  | .tup l, _, h => by
    obtain ⟨a, xs, hv, ha, hs⟩ := h
    exact ⟨a, xs, hv, e _ _ ha, Ats.ex e hs⟩
  | .dic, _, h => by
    obtain ⟨a, hv, ha⟩ := h
    exact ⟨a, hv, e _ _ ha⟩
  | .rat n d, _, h => by
    obtain ⟨a, dx, hv, ha⟩ := h
    exact ⟨a, dx, hv, e _ _ ha⟩
theorem Ats.ex {C : Addr} {H H' : Hp} (e : Same H H') : ∀ {l : List D} {xs : List V}, Ats C H l xs → Ats C H' l xs
  | [], _, h => h
  | d :: l, _, h => by
    obtain ⟨x, r, hx, h1, h2⟩ := h
    exact ⟨x, r, hx, At.ex e h1, Ats.ex e h2⟩
end

/-- the class of a datum -/
def tyD (C : Addr) : D → Value
  | .non => .type "NoneType"
  | .bl _ => .type "bool"
  | .int _ => .type "int"
  | .str _ => .type "str"
  | .lst _ => .type "list"
  | .tup _ => .type "tuple"
  | .dic => .type "dict"
  | .rat _ _ => .ref C

/-- what isinstance asks of an own class -/
structure ClsI (K : PySem.W.Frag) (C : Addr) : Prop where
  cl : Cls K C
  ha : PySem.W.findIn K (.ref C) "__class__" = some (some (.builtin "object.__class__"))
  hn : PySem.W.specialIn K (.builtin "object.__class__") "__get__" = some (some (.builtin "getset_descriptor.__get__"))
  htk : PySem.W.takesIn K (.builtin "object.__class__") = some true
  hm : PySem.W.mroIn K C (.type "object") = some true
theorem ty_at {K : PySem.W.Frag} {C : Addr} {H : Hp} (T : ClsI K C) : ∀ {d : D} {v : V}, At C H d v → TyX K H v (tyD C d)
  | .non, _, h => by cases (show _ = V.non from h); exact .base .non
  | .bl b, _, h => by cases (show _ = V.bl b from h); exact .base (.bl b)
  | .int i, _, h => by cases (show _ = V.int i from h); exact .base (.int i)
  | .str x, _, h => by cases (show _ = V.str x from h); exact .base (.str x)
  | .lst l, _, h => by
    obtain ⟨a, xs, rfl, ha, _⟩ := h
    exact .base (.lst ha)
  | .tup l, _, h => by
    obtain ⟨a, xs, rfl, ha, _⟩ := h
    exact .base (.tup ha)
  | .dic, _, h => by
    obtain ⟨a, rfl, ha⟩ := h
    exact .base (.dK ha)
  | .rat n d, _, h => by
    obtain ⟨a, dx, rfl, ha⟩ := h
    exact .base (.ins ha T.cl T.ha T.hn T.htk T.hm)
end Fu

/-! Own errors: class E(..): def __init__(self, f): self.f = f. Made and raised; a new instance whose __init__ may raise. -/
namespace Fu
open PySem L2
open PyProof.Rows hiding St
/-- the promise of such an __init__ -/
def spX (C : Addr) (f : Str) : Sp := fun vs H Q _ => ∃ (a : Addr) (v : V), vs = [.ref a, v] ∧ H a = some (exo a C none) ∧ ∀ dx, H dx = none → dx ≠ a → Q .non (upd (upd H dx (exd dx [(f, v)])) a (exo a C (some dx)))
/-- what the written part says of such a class -/
structure ErrC (K : PySem.W.Frag) (mg : Str → Option Value) (x f : Str) (C fI : Addr) : Prop where
  oex : OexC K C
  gC : mg x = some (.ref C)
  iC : PySem.W.findIn K (.ref C) "__init__" = some (some (.ref fI))
  tI : PySem.W.typeIn K (.ref fI) = some (.type "function")
  noF : PySem.W.findIn K (.ref C) f = some none
  xf : XfC K C
section
variable {X : Cx} {C fI : Addr} {x f : Str} {e : Expr} {ta : TA} {p pos : Pos} {k : Nat} {fd : FuncData}
/-- E(e) -/
def tMkX (C : Addr) (f : Str) (ta : TA) : St → Hp → XK → Prop := fun σ H Q => ta σ H fun vs H1 => ∃ v, vs = [v] ∧ ∀ d, H1 d = none → Q (.ref C) (some d) (upd H1 d (.xd [(f, v)]))
theorem pmk_mono {e : Expr} {t t' : St → Hp → XK → Prop} (h : PMk X e t) (m : ∀ σ H Q, t' σ H Q → t σ H Q) : PMk X e t' := fun pins s σ H Q I q => h pins s σ H Q I (m σ H Q q)
theorem mkX_of (hm : ∀ σ H (Q Q' : List V → Hp → Prop), (∀ vs H1, Q vs H1 → Q' vs H1) → ta σ H Q → ta σ H Q') (σ : St) (H : Hp) (Q : XK) (h : tMkX C f ta σ H Q) : tMkO C (spX C f) [] ta σ H Q := by
  refine hm σ H _ _ (fun vs H1 q => ?_) h
  obtain ⟨v, rfl, k⟩ := q
  refine ⟨(show 1 ≤ 1000 by decide), fun a ha => ?_⟩
  refine ⟨a, v, rfl, upd_same, fun dx hdx ne => ⟨rfl, dx, [(f, v)], upd_same, by rw [upd_ne ne, upd_same], ?_, ?_⟩⟩
  · rw [upd_ne ne] at hdx
    exact hdx
  · rw [upd_ne ne] at hdx
    have hh := k dx hdx
    have eq : upd (del (upd (upd (upd H1 a (exo a C none)) dx (exd dx [(f, v)])) a (exo a C (some dx))) a) dx (.xd [(f, v)]) = upd H1 dx (.xd [(f, v)]) := by
      funext b
      by_cases hb : b = dx
      · subst hb
        rw [upd_same, upd_same]
      · rw [upd_ne hb, upd_ne hb]
        by_cases hba : b = a
        · subst hba
          rw [del_same]
          exact ha.symm
        · rw [del_ne hba, upd_ne hba, upd_ne hb, upd_ne hba]
    rw [eq]
    exact hh
theorem tCons_mono {te : TE} (h : ∀ σ H (Q Q' : VK), (∀ v H1, Q v H1 → Q' v H1) → te σ H Q → te σ H Q') : ∀ σ H (Q Q' : List V → Hp → Prop), (∀ vs H1, Q vs H1 → Q' vs H1) → tCons te tNil σ H Q → tCons te tNil σ H Q' :=
  fun σ H _ _ m q => h σ H _ _ (fun v H1 z => m [v] H1 z) q
theorem tVar_mono (i : Nat) : ∀ σ H (Q Q' : VK), (∀ v H1, Q v H1 → Q' v H1) → tVar i σ H Q → tVar i σ H Q' := fun _ H _ _ m q => by
  obtain ⟨v, e, q⟩ := q
  exact ⟨v, e, m _ _ q⟩
theorem tC_mono (v : V) : ∀ σ H (Q Q' : VK), (∀ v H1, Q v H1 → Q' v H1) → tC v σ H Q → tC v σ H Q' := fun _ H _ _ m q => m _ _ q
/-- raise E(e) -/
def tRaiseX (C : Addr) (f : Str) (W : WX) (ta : TA) : TS := fun _ σ H => tMkX C f ta σ H fun cls d H' => W cls d σ H'
theorem ps_raiseX {CX : CXT} {te : TE} {W : WX} {pos2 : Pos} (hc : X.calm = true) (T : ErrC X.K X.mg x f C fI) (F1 : FnOk X.prog X.w X.K X.mg X.base CX k fI fd ["self", f] (spX C f)) (hr : Room (k + 1) X.A) (hb : Binds X.K fd ["self", f] [])
    (hx : Passes CX X (fun _ _ _ => False)) (tk : Takes X W) (ha : PE X e te) (hm : ∀ σ H (Q Q' : VK), (∀ v H1, Q v H1 → Q' v H1) → te σ H Q → te σ H Q') (hg : Gl X x := by rfl)
    (hs : starEach [e] X.env = (false, eval e X.env) :: starEach [] X.env := by rfl) (hdb : (x == ("__debug__" : Str)) = false := by decide) (hpl : (backTo pos (starEach [] X.env)).any (·.1) = false := by rfl) :
    PS X (.Raise (some (.Call (.Name x p) [e] [] pos)) none pos2) (tRaiseX C f W (tCons te tNil)) :=
  ps_raise hc tk (pmk_mono (pmk_oex T.oex T.iC T.tI F1 hr hb .nil hx hg T.gC (pa_cons ha pa_nil hs) hdb hs hpl) (mkX_of (tCons_mono hm)))
end
/-- the __init__ itself -/
theorem ok_xinit {P : Program} {w : World} {K : PySem.W.Frag} {mg : Str → Option Value} {base : Heap} {C fI : Addr} {x f qual : Str} {fd : FuncData} {st : Stmt} {p1 p2 p3 p4 : Pos} (F : Fun K "__init__" qual st fI fd) (T : ErrC K mg x f C fI)
    (hb : defBody st = [.Assign [.Attribute (.Name "self" p1) f p2] (.Name f p3) p4]) (sc : FnScope ["self", f] ["self", f] (defScope st))
    (hsw : ∀ (env : Env), swapsWith (.Name f p3) (some (.Attribute (.Name "self" p1) f p2)) p4.line env = pure false) (v0 : Vis (defScope st) "self") (v1 : Vis (defScope st) f) (d1 : (f == ("__debug__" : Str)) = false) (d2 : (f == ("__classdict__" : Str)) = false) :
    FnOk P w K mg base CX0 1 fI fd ["self", f] (spX C f) := by
  refine F.ok sc (fun vs H Q E h => ?_) (fun cdv A outer s H vs Q E hr h => ?_)
  · obtain ⟨a, v, rfl, _⟩ := h
    rfl
  · obtain ⟨a, v, rfl, ha, k⟩ := h
    rw [hb]
    refine ⟨_, pss_one (ps_ost (pe_var (i := 0) rfl v0) (pe_var (i := 1) rfl v1 d1 d2) (hsw _)), ?_⟩
    exact ⟨_, rfl, _, rfl, a, C, rfl, T.oex, T.noF, .inl ⟨ha, fun dx n ne => k dx n ne⟩⟩
end Fu

/-! A new instance, a method, whose code may raise: what is raised is wished for at the caller's slots. -/
namespace Fu
open PySem L2
open PyProof.Rows hiding St
section
variable {X : Cx} {CX : CXT} {k : Nat} {f C : Addr} {fd : FuncData} {ps : List Str} {sp : Sp} {dvs : List V} {ds : List Value} {E : St → XK} {x m : Str} {p pos apos : Pos} {e o : Expr} {es : List Expr} {ta : TE} {t : TA}
/-- what lies behind a raise in the callee, the new instance tracked -/
theorem run_makeS {pins : List (Addr × Obj)} {σ : St} {H : Hp} {s : Shared} {Q : VK} {us : List Value} {vs : List V} (M : Mk X.K C f) (F : FnOk X.prog X.w X.K X.mg X.base CX k f fd ps sp) (hr : Room (k + 1) X.A) (hb : Binds X.K fd ps ds) (hd : Vals dvs ds)
    (hx : PassesAt CX X σ (E σ)) (I : Inv X pins σ H s) (r : Vals vs us)
    (h : ∀ x dx, H x = none → H dx = none → dx ≠ x → sp (.ref x :: (vs ++ dvs)) (upd (upd H dx (.own x)) x (.ins C dx [])) (fun v H2 => v = .non ∧ Q (.ref x) H2) (E σ)) :
    wpAny (model X.prog X.w) X.A (call (.ref C) us) (EP X pins σ Q) X.xe s := by
  have hq := h (s.heap.objs.size + 1) s.heap.objs.size (I.hok.fresh (Nat.le_succ _)) (I.hok.fresh (Nat.le_refl _)) (Nat.ne_of_lt (Nat.lt_succ_self _))
  have I2 := Inv.made (C := C) I
  have r2 : Vals (V.ref (s.heap.objs.size + 1) :: (vs ++ dvs)) (Value.ref (s.heap.objs.size + 1) :: (us ++ ds)) := .cons rfl (r.append hd)
  have hl : (Value.ref (s.heap.objs.size + 1) :: us ++ ds).length = ps.length := by
    have e := r2.length
    rw [F.len _ _ _ _ hq] at e
    exact e.symm
  refine wpAny_call (make_map (f := f) I.kIn M.makes M.init (beq_iff_eq.mp M.fn) (codeAny_mono (F.run _ X.stack _ _ ⟨Value.ref (s.heap.objs.size + 1) :: us, []⟩ (Value.ref (s.heap.objs.size + 1) :: (us ++ ds)) _ _ (E σ) (hr.make C us [])
    (I2.env0.make C us []) (hb _ (Value.ref (s.heap.objs.size + 1) :: us) I2.kIn hl) r2 hq) fun r s' hq' => ?_))
  cases r with
  | error e => exact hx pins _ _ e s' I2 hq'
  | ok fl =>
    cases fl with
    | ret u =>
      obtain ⟨v, H', I3, rv, ev, q3⟩ := I2.after hq'
      subst ev
      exact ⟨rv, ⟨V.ref (s.heap.objs.size + 1), H', I3, rfl, q3⟩⟩
    | next => exact False.elim hq'
    | brk => exact False.elim hq'
    | cont => exact False.elim hq'
/-- C(e, ..) -/
def tMakeS (C : Addr) (sp : Sp) (dvs : List V) (E : St → XK) (t : TA) : TE := fun σ H Q => t σ H fun vs H1 => ∀ x dx, H1 x = none → H1 dx = none → dx ≠ x →
  sp (.ref x :: (vs ++ dvs)) (upd (upd H1 dx (.own x)) x (.ins C dx [])) (fun v H2 => v = .non ∧ Q (.ref x) H2) (E σ)
theorem pe_makeS (M : Mk X.K C f) (F : FnOk X.prog X.w X.K X.mg X.base CX k f fd ps sp) (hr : Room (k + 1) X.A) (hg : Gl X x) (hm : X.mg x = some (.ref C)) (hb : Binds X.K fd ps ds) (hd : Vals dvs ds) (hx : ∀ σ, PassesAt CX X σ (E σ))
    (ha : PA X (e :: es) t) (hdb : (x == ("__debug__" : Str)) = false := by decide) (he : starEach (e :: es) X.env = (false, eval e X.env) :: starEach es X.env := by rfl) (hpl : (backTo pos (starEach es X.env)).any (·.1) = false := by rfl) :
    PE X (.Call (.Name x p) (e :: es) [] pos) (tMakeS C sp dvs E t) := by
  refine ⟨fun pins s σ H Q I h => ?_⟩
  refine wpAny_Call_Name_kw (ld_glob I hg hm ?_ hdb)
  refine PySem.W.callWith_K (h₀ := X.base) I.ok.mod.kin M.kp (thn (ha.run pos pins s σ H _ I h) fun us s1 ⟨vs, H1, I1, r, q⟩ => ⟨I1.kIn, ?_⟩) he hpl
  exact run_makeS M F hr hb hd (hx σ) I1 r q
/-- o.m(e, ..) -/
def tMethS (C : Addr) (m : Str) (sp : Sp) (dvs : List V) (E : St → XK) (ta : TE) (t : TA) : TE := fun σ H Q => ta σ H fun x H1 => ∃ a dx fs, x = .ref a ∧ H1 a = some (.ins C dx fs) ∧ fs.lookup m = none ∧
  t σ H1 fun vs H2 => sp (x :: (vs ++ dvs)) H2 Q (E σ)
theorem pe_methS {pl : Sem Bool} (he : PE X o ta) (c : Cls X.K C) (hm : Meth X.K C m f) (F : FnOk X.prog X.w X.K X.mg X.base CX k f fd ps sp) (hr : Room k X.A) (hb : Binds X.K fd ps ds) (hd : Vals dvs ds) (hx : ∀ σ, PassesAt CX X σ (E σ)) (ha : PA X (e :: es) t)
    (hst : starEach (e :: es) X.env = (false, eval e X.env) :: starEach es X.env := by rfl) (hpl : (backTo pos (starEach es X.env)).any (·.1) = false := by rfl)
    (ht : eval (.Call (.Attribute o m apos) (e :: es) [] pos) X.env = (do
      let ov ← eval o X.env
      standAt apos.atName
      let (f, first) ← holding [ov] (getMethod ov m pl)
      callWith pos f first (backTo pos (starEach (e :: es) X.env)) (backToKw pos (keywordEach [] X.env))) := by rfl) :
    PE X (.Call (.Attribute o m apos) (e :: es) [] pos) (tMethS C m sp dvs E ta t) := by
  refine ⟨fun pins s σ H Q I h => ?_⟩
  refine PySem.W.methodCall_KW (pl := pl) (thn (he.run pins s σ H _ I h) fun u s1 ⟨x, H1, I1, rx, a, dx, fs, ex, ea, l, q⟩ => ?_) ht
  subst ex
  obtain rfl : u = Value.ref a := rx
  refine getmeth_ok I1 ea c hm l ?_
  refine PySem.W.callWith_K (first := [.ref a]) (h₀ := X.base) I.ok.mod.kin hm.kp (thn (ha.run pos pins s1 σ H1 _ I1 q) fun us s2 ⟨vs, H2, I2, r, q2⟩ => ⟨I2.kIn, ?_⟩) hst hpl
  exact run_fnSD (us := .ref a :: us) (vs := .ref a :: vs) F hr hb hd (hx σ) I2 (.cons rfl r) q2
end
/-! ### a def by its name -/
structure Def (P : Program) (w : World) (K : PySem.W.Frag) (mg : Str → Option Value) (base : Heap) (CX : CXT) (k : Nat) (x : Str) (ps : List Str) (sp : Sp) (f : Addr) (fd : FuncData) : Prop where
  ok : FnOk P w K mg base CX k f fd ps sp
  g : mg x = some (.ref f)
  kp : PySem.W.keepIn K (.ref f) = true
  b : Binds K fd ps []
section
variable {X : Cx} {CX : CXT} {k : Nat} {f C : Addr} {fd : FuncData} {ps : List Str} {sp : Sp} {E : St → XK} {x m : Str} {p pos apos : Pos} {e o : Expr} {es : List Expr} {ta : TE} {t : TA}
/-- f(e, ..), f lets nothing out -/
theorem pe_def (d : Def X.prog X.w X.K X.mg X.base CX0 k x ps sp f fd) (hr : Room k X.A) (ha : PA X (e :: es) t) (hg : Gl X x := by rfl) (hdb : (x == ("__debug__" : Str)) = false := by decide)
    (he : starEach (e :: es) X.env = (false, eval e X.env) :: starEach es X.env := by rfl) (hpl : (backTo pos (starEach es X.env)).any (·.1) = false := by rfl) : PE X (.Call (.Name x p) (e :: es) [] pos) (tCall sp [] E0 t) :=
  pe_call d.ok hr hg d.g d.kp d.b .nil pass0 ha hdb he hpl
/-- f(e, ..), f may raise; where nothing may be let out (the promise shows that it does not) -/
theorem pe_defL (d : Def X.prog X.w X.K X.mg X.base (L2.CX X.prog X.w) k x ps sp f fd) (hr : Room k X.A) (ha : PA X (e :: es) t) (hg : Gl X x := by rfl) (hdb : (x == ("__debug__" : Str)) = false := by decide)
    (he : starEach (e :: es) X.env = (false, eval e X.env) :: starEach es X.env := by rfl) (hpl : (backTo pos (starEach es X.env)).any (·.1) = false := by rfl) : PE X (.Call (.Name x p) (e :: es) [] pos) (tCall sp [] E0 t) :=
  pe_call d.ok hr hg d.g d.kp d.b .nil passL ha hdb he hpl
end
end Fu

/-! Comparisons of own instances by their own methods: x op y, y op x (reflected), x != y by __eq__. -/
namespace Fu
open PySem L2
open PyProof.Rows hiding St
section
variable {X : Cx} {CX : CXT} {k : Nat} {f C : Addr} {fd : FuncData} {ps : List Str} {sp : Sp} {E : XK}
/-- a callee's own value is never NotImplemented -/
theorem back_of {pins : List (Addr × Obj)} {σ : St} {Q : VK} {u : Value} {s' : Shared} (h : EP X pins σ Q u s') : PySem.W.CmpBack (EP X pins σ Q) u s' := by
  obtain ⟨v, H', I, r, q⟩ := id h
  cases v with
  | non => cases r; exact h
  | bl b => cases r; exact h
  | int i => obtain ⟨t, rfl⟩ := r; exact h
  | str x => obtain ⟨t, rfl⟩ := r; exact h
  | byt b => obtain ⟨t, rfl⟩ := r; exact h
  | flt b => obtain ⟨t, rfl⟩ := r; exact h
  | ref a => cases r; exact h
  | ty n => cases r; exact h
theorem inst_of {pins : List (Addr × Obj)} {σ : St} {H : Hp} {s : Shared} {a dx : Addr} {fs : List (Str × V)} (I : Inv X pins σ H s) (h : H a = some (.ins C dx fs)) : ∃ od, PySem.W.InstAt s.heap a (PySem.W.instObj C dx) C (some od) := by
  obtain ⟨mA, O, _⟩ := ins_get I.hok h
  obtain ⟨od, J, _⟩ := O.look
  exact ⟨od, J⟩
/-- x op y, x an own instance -/
def rOwn (K : PySem.W.Frag) (C : Addr) (sp : Sp) (E : XK) : R2 := fun x y H Q => ∃ a dx fs t, x = .ref a ∧ H a = some (.ins C dx fs) ∧ TyX K H y t ∧ PySem.W.notFirst K C t = true ∧ sp [.ref a, y] H Q E
theorem op_own {op : CmpOp} (F : FnOk X.prog X.w X.K X.mg X.base CX k f fd ps sp) (hr : Room k X.A) (hs : PySem.W.findIn X.K (.ref C) (cmpInfo op).2.1 = some (some (.ref f))) (hf : PySem.W.isFn X.K (.ref f) = true) (hb : Binds X.K fd ps []) (hx : Passes CX X E)
    (ho : ∀ a b, compareOp op a b = richCompare op a b) : OpR X (compareOp op) (rOwn X.K C sp E) := by
  intro pins s σ H x y u v Q I rx ry h
  obtain ⟨a, dx, fs, t, rfl, ha, ty, hn, q⟩ := h
  obtain rfl : u = Value.ref a := rx
  obtain ⟨od, J⟩ := inst_of I ha
  obtain ⟨P, Z, p, _⟩ := kit_of I ry ty
  obtain ⟨m, hF⟩ := I.fr
  rw [ho]
  refine PySem.W.cmp_K (op := op) (tb := t) hr.units0 hF I.ok.mod.kin J (Z.ty _ _ I.kIn p) hn hs hf ?_
  exact thn (run_fn (us := [.ref a, v]) (vs := [.ref a, y]) (dvs := []) (ds := []) F hr hb .nil hx I (.cons rfl (.cons ry .nil)) q) fun u s' h => back_of h
end
end Fu

/-! Defs that raise nothing, called wherever one stands (also while an exception is handled). -/
namespace Fu
open PySem L2
open PyProof.Rows hiding St
open L2H (RoomH roomH_of)
/-- the promise of a def, whatever is being handled -/
structure FnA (P : Program) (w : World) (K : PySem.W.Frag) (mg : Str → Option Value) (base : Heap) (k : Nat) (f : Addr) (fd : FuncData) (ps : List Str) (sp : Sp) : Prop where
  len : ∀ vs H Q E, sp vs H Q E → vs.length = ps.length
  run : ∀ (A : Around) (outer : List Env) (s : Shared) (H : Hp) (args : Args) (us : List Value) (vs : List V) (Q : VK) (E : XK), RoomH k A → Env0 P w K mg base A outer s H → BindsTo s fd args (ps.zip us) → Vals vs us → sp vs H Q E →
    codeAny (model P w) A (.call (.ref f) args) (CR CX0 outer P w H s Q E) s
section
variable {P : Program} {w : World} {K : PySem.W.Frag} {mg : Str → Option Value} {base : Heap} {k : Nat} {f : Addr} {fd : FuncData} {ps : List Str} {sp : Sp}
theorem FnA.calm (F : FnA P w K mg base k f fd ps sp) : FnOk P w K mg base CX0 k f fd ps sp := ⟨F.len, fun A outer s H args us vs Q E hr => F.run A outer s H args us vs Q E (roomH_of hr)⟩
/-- the context of such a def's body -/
abbrev cxA (P : Program) (w : World) (K : PySem.W.Frag) (mg : Str → Option Value) (base : Heap) (N : List Str) (qual : Str) (scope : Scope) (f : Addr) (cd : Value) (A : Around) (outer : List Env) (s : Shared) (H : Hp) (E : XK) : Cx :=
  { cxOf CX0 P w K mg base N qual scope f cd A outer s H E with calm := false, xe := fun _ _ => False }
/-- nothing but «what is handled» hangs on it -/
theorem inv_any {X Y : Cx} {pins : List (Addr × Obj)} {σ : St} {H : Hp} {s : Shared} (I : Inv X pins σ H s) (h1 : Y = { X with A := Y.A, calm := false, xe := Y.xe }) (h2 : Y.A.frames = some Y.stack) : Inv Y pins σ H s := by
  obtain ⟨⟨o1, o2, o3, o4, o5, o6, o7, o8, _, _, o11, o12, o13, o14, o15, o16, o17, o18⟩, i2, i3, i4, i5, i6, i7, i8, i9, i10, i11⟩ := I
  rw [h1] at h2 ⊢
  exact ⟨⟨o1, o2, o3, o4, o5, o6, o7, o8, fun z => Bool.noConfusion (show false = true from z), h2, o11, o12, o13, o14, o15, o16, o17, o18⟩, i2, i3, i4, i5, i6, i7, i8, i9, i10, i11⟩
theorem Env0.quiet {A : Around} {outer : List Env} {s : Shared} {H : Hp} (e : Env0 P w K mg base A outer s H) : Env0 P w K mg base { A with handled := none } outer s H := ⟨e.frames, e.mod, e.bs, e.bsz, e.funs, e.frf, e.hok, e.bare⟩
/-- a def by its body's reading there -/
theorem Fun.okA {x qual : Str} {st : Stmt} {N : List Str} (F : Fun K x qual st f fd) (S : FnScope N ps (defScope st)) (len : ∀ vs H Q E, sp vs H Q E → vs.length = ps.length)
    (hbody : ∀ (cdv : Value) (A : Around) (outer : List Env) (s : Shared) (H : Hp) (vs : List V) (Q : VK) (E : XK), RoomH k (A.deeper (envOfC qual (defScope st) s.heap.objs.size f cdv)) → sp vs H Q E →
      ∃ t, PSs (cxA P w K mg base N qual (defScope st) f cdv A outer s H E) (defBody st) t ∧ t { nx := fun _ H' => Q .non H', rt := Q } (L2.start N vs) H) : FnA P w K mg base (k + 1) f fd ps sp := by
  obtain ⟨oc, od, kV, doc, pm, an, cdv, ct, osl, rfl, lk, hcd⟩ := F.ex
  refine ⟨len, fun A outer s H args us vs Q E hr e0 hb r hsp => ?_⟩
  have KX := e0.mod.kin.keeps fun b o e => (e0.bs b o e).1
  refine codeAny_call_function hr.depth (KX _ _ lk) rfl S.co S.gen rfl (PySem.W.codeRec_of KX hcd) (hb _ _ _ _ (wpAny_newFunctionEnv_cells S.kind (fun z hz => ?_) fun env he s1 x => ?_))
  · rcases S.par z.1 (List.of_mem_zip hz).1 with q | q
    · exact .inl q
    · exact .inr ⟨q, PySem.W.cellsFrom_some _ _ _ (.inl q)⟩
  · subst he
    refine ⟨(e0.mod.nolimit.keeps fun b o e => (e0.bs b o e).1).keeps x.toInCall.keep, codeAny_func ?_⟩
    obtain ⟨t, ht, hq⟩ := hbody cdv A outer s H vs Q E (hr.deeper _) hsp
    have I0 := inv_start (CX := CX0) (E := E) S (A := { A with handled := none }) rfl (Env0.quiet e0) (len _ _ _ _ hsp) r x
    have I : Inv (cxA P w K mg base N qual (defScope st) f cdv A outer s H E) [] (L2.start N vs) H s1 := inv_any I0 rfl (Around.frames_deeper e0.frames)
    refine wpAny_mono (ht.run [] s1 _ H _ I hq) (fun fl s' hs => ?_) fun e s' hs => hs.elim
    cases fl with
    | ret u =>
      obtain ⟨v, _, H', J, rv, q⟩ := hs
      exact ⟨v, H', J.os, J.bare, J.base, J.hok, rv, q⟩
    | next =>
      obtain ⟨_, H', J, q⟩ := hs
      exact ⟨V.non, H', J.os, J.bare, J.base, J.hok, rfl, q⟩
    | brk =>
      obtain ⟨_, _, _, q⟩ := hs
      cases q
    | cont =>
      obtain ⟨_, _, _, q⟩ := hs
      cases q
end
/-- such a def runs, from anywhere -/
theorem run_any {X : Cx} {A : Around} {k : Nat} {f : Addr} {fd : FuncData} {ps : List Str} {sp : Sp} {pins : List (Addr × Obj)} {σ : St} {H : Hp} {s : Shared} {Q : VK} {E : XK} {us : List Value} {vs : List V} (F : FnA X.prog X.w X.K X.mg X.base k f fd ps sp)
    (hr : RoomH k A) (hf : A.frames = some X.stack) (hb : Binds X.K fd ps []) (I : Inv X pins σ H s) (r : Vals vs us) (h : sp vs H Q E) : wpAny (model X.prog X.w) A (call (.ref f) us) (EP X pins σ Q) X.xe s := by
  have e := I.env0
  have e0 : Env0 X.prog X.w X.K X.mg X.base A X.stack s H := ⟨hf, e.mod, e.bs, e.bsz, e.funs, e.frf, e.hok, e.bare⟩
  have b := hb s us I.kIn (by rw [List.append_nil, ← r.length]; exact F.len _ _ _ _ h)
  rw [List.append_nil] at b
  refine wpAny_call (codeAny_mono (F.run A X.stack s H ⟨us, []⟩ us vs Q E hr e0 b r h) fun z s' hq => ?_)
  cases z with
  | error e => cases hq
  | ok fl =>
    cases fl with
    | ret u => exact I.after hq
    | next => cases hq
    | brk => cases hq
    | cont => cases hq
end Fu

/-! Defs that are called where no repr is under way (so that repr of a list, a tuple, a dict may be told). -/
namespace Fu
open PySem L2
open PyProof.Rows hiding St
open L2H (RoomH roomH_of)
/-- room, and no repr under way -/
structure RoomG (k : Nat) (A : Around) : Prop where
  r : Room k A
  g : A.guards = some []
theorem RoomG.mono {j k : Nat} {A : Around} (h : RoomG k A) (e : j ≤ k) : RoomG j A := ⟨h.r.mono e, h.g⟩
theorem RoomG.deeper {k : Nat} {A : Around} (h : RoomG (k + 1) A) (env : Env) : RoomG k (A.deeper env) := ⟨h.r.deeper env, h.g⟩
/-- the promise of a def called there -/
structure FnG (P : Program) (w : World) (K : PySem.W.Frag) (mg : Str → Option Value) (base : Heap) (CX : CXT) (k : Nat) (f : Addr) (fd : FuncData) (ps : List Str) (sp : Sp) : Prop where
  len : ∀ vs H Q E, sp vs H Q E → vs.length = ps.length
  run : ∀ (A : Around) (outer : List Env) (s : Shared) (H : Hp) (args : Args) (us : List Value) (vs : List V) (Q : VK) (E : XK), RoomG k A → Env0 P w K mg base A outer s H → BindsTo s fd args (ps.zip us) → Vals vs us → sp vs H Q E →
    codeAny (model P w) A (.call (.ref f) args) (CR CX outer P w H s Q E) s
section
variable {P : Program} {w : World} {K : PySem.W.Frag} {mg : Str → Option Value} {base : Heap} {CX : CXT} {k : Nat} {f : Addr} {fd : FuncData} {ps : List Str} {sp : Sp}
theorem FnG.of (F : FnOk P w K mg base CX k f fd ps sp) : FnG P w K mg base CX k f fd ps sp := ⟨F.len, fun A outer s H args us vs Q E hr => F.run A outer s H args us vs Q E hr.r⟩
theorem Fun.okG {x qual : Str} {st : Stmt} {N : List Str} (F : Fun K x qual st f fd) (S : FnScope N ps (defScope st)) (len : ∀ vs H Q E, sp vs H Q E → vs.length = ps.length)
    (hbody : ∀ (cdv : Value) (A : Around) (outer : List Env) (s : Shared) (H : Hp) (vs : List V) (Q : VK) (E : XK), RoomG k (A.deeper (envOfC qual (defScope st) s.heap.objs.size f cdv)) → sp vs H Q E →
      ∃ t, PSs (cxOf CX P w K mg base N qual (defScope st) f cdv A outer s H E) (defBody st) t ∧ t { nx := fun _ H' => Q .non H', rt := Q } (L2.start N vs) H) : FnG P w K mg base CX (k + 1) f fd ps sp := by
  obtain ⟨oc, od, kV, doc, pm, an, cdv, ct, osl, rfl, lk, hcd⟩ := F.ex
  refine ⟨len, fun A outer s H args us vs Q E hr e0 hb r hsp => ?_⟩
  have KX := e0.mod.kin.keeps fun b o e => (e0.bs b o e).1
  refine codeAny_call_function hr.r.depth (KX _ _ lk) rfl S.co S.gen rfl (PySem.W.codeRec_of KX hcd) (hb _ _ _ _ (wpAny_newFunctionEnv_cells S.kind (fun z hz => ?_) fun env he s1 x => ?_))
  · rcases S.par z.1 (List.of_mem_zip hz).1 with q | q
    · exact .inl q
    · exact .inr ⟨q, PySem.W.cellsFrom_some _ _ _ (.inl q)⟩
  · subst he
    refine ⟨(e0.mod.nolimit.keeps fun b o e => (e0.bs b o e).1).keeps x.toInCall.keep, codeAny_func ?_⟩
    obtain ⟨t, ht, hq⟩ := hbody cdv A outer s H vs Q E (hr.deeper _) hsp
    have I := inv_start (CX := CX) (E := E) S hr.r.hd e0 (len _ _ _ _ hsp) r x
    refine wpAny_mono (ht.run [] s1 _ H _ I hq) (fun fl s' hs => ?_) fun e s' hs => hs
    cases fl with
    | ret u =>
      obtain ⟨v, _, H', J, rv, q⟩ := hs
      exact ⟨v, H', J.os, J.bare, J.base, J.hok, rv, q⟩
    | next =>
      obtain ⟨_, H', J, q⟩ := hs
      exact ⟨V.non, H', J.os, J.bare, J.base, J.hok, rfl, q⟩
    | brk =>
      obtain ⟨_, _, _, q⟩ := hs
      cases q
    | cont =>
      obtain ⟨_, _, _, q⟩ := hs
      cases q
end
section
variable {X : Cx} {k : Nat} {f : Addr} {fd : FuncData} {ps : List Str} {sp : Sp} {x : Str} {p pos : Pos} {e : Expr} {es : List Expr} {t : TA}
/-- f(e, ..), f lets nothing out -/
theorem pe_callG (F : FnG X.prog X.w X.K X.mg X.base CX0 k f fd ps sp) (hr : RoomG k X.A) (hm : X.mg x = some (.ref f)) (hk : PySem.W.keepIn X.K (.ref f) = true) (hb : Binds X.K fd ps []) (ha : PA X (e :: es) t) (hg : Gl X x := by rfl) (hdb : (x == ("__debug__" : Str)) = false := by decide)
    (he : starEach (e :: es) X.env = (false, eval e X.env) :: starEach es X.env := by rfl) (hpl : (backTo pos (starEach es X.env)).any (·.1) = false := by rfl) : PE X (.Call (.Name x p) (e :: es) [] pos) (tCall sp [] E0 t) := by
  refine ⟨fun pins s σ H Q I h => wpAny_Call_Name_kw (ld_glob I hg hm (PySem.W.callWith_K (h₀ := X.base) I.ok.mod.kin hk (thn (ha.run pos pins s σ H _ I h) fun us s1 ⟨vs, H1, I1, r, q⟩ => ⟨I1.kIn, ?_⟩) he hpl) hdb)⟩
  have hl : us.length = ps.length := by
    rw [← r.length, ← List.append_nil vs]
    exact F.len _ _ _ _ q
  have b := hb s1 us I1.kIn (by rw [List.append_nil]; exact hl)
  rw [List.append_nil] at b
  have q : sp vs H1 Q E0 := by
    have z : sp (vs ++ []) H1 Q E0 := q
    rw [List.append_nil] at z
    exact z
  refine wpAny_call (codeAny_mono (F.run X.A X.stack s1 H1 ⟨us, []⟩ us vs Q E0 hr I1.env0 b r q) fun z s' hq => ?_)
  cases z with
  | error e => cases hq
  | ok fl =>
    cases fl with
    | ret u => exact I1.after hq
    | next => cases hq
    | brk => cases hq
    | cont => cases hq
end
end Fu

/-! The end of a law whose def is told by FnG. -/
namespace Fu
open PySem L2
open PyProof.Rows hiding St
/-- what is tracked at the law's entry: the script, if it is no object of the top -/
def H1st (K : PySem.W.Frag) (a : Addr) (o : Obj) (xs : List V) : Hp := fun b => if b = a then (match K.lookup a with | some _ => none | none => some (.frz o (.lst xs))) else none
section
variable {P : Program} {w : World} {K : PySem.W.Frag} {mg mb : Str → Option Value} {a : Addr} {o : Obj} {xs : List V} {h : Heap}
theorem h1_ne {b : Addr} (e : b ≠ a) : H1st K a o xs b = none := if_neg e
theorem h1_at {b : Addr} {u : HO} (e : H1st K a o xs b = some u) : b = a ∧ K.lookup a = none ∧ u = .frz o (.lst xs) := by
  unfold H1st at e
  split at e
  · rename_i hb
    split at e
    · cases e
    · rename_i hk
      cases e
      exact ⟨hb, hk, rfl⟩
  · cases e
theorem h1_only : Only (H1st K a o xs) := fun b => by
  cases e : H1st K a o xs b with
  | none => exact .inl rfl
  | some u =>
    obtain ⟨_, _, rfl⟩ := h1_at e
    exact .inr ⟨_, _, rfl⟩
end
theorem law_G {P : Program} {w : World} {K : PySem.W.Frag} {mg mb : Str → Option Value} {k : Nat} {fa a : Addr} {fd : FuncData} {x : Str} {sp : Sp} {s : Shared} {vs : List Value} {ns : List Int} (KX : K.In s.heap) (hns : s.heap.Ns mainGlobals mg)
    (hb : s.heap.Ns builtinsNs mb) (hbb : ∀ x : Str, x ≠ "__name__" → mb x = bootBuiltins x) (hlim : s.heap.NoLimit) (hg : s.gens = #[]) (ha : s.heap.get? a = some { cls := .type "list", data := .seq vs.toArray }) (hi : IntsAre vs ns)
    (hl : ns.length ≤ sizeLine) (hr : RoomG k callerA) (F : ∀ base : Heap, K.In base → base.Ns mainGlobals mg → FnG P w K mg base CX0 k fa fd [x] sp) (hbind : ∀ (s : Shared) (u : Value), BindsTo s fd ⟨[u], []⟩ [(x, u)])
    (hsp : ∀ H : Hp, Only H → SqL K H a (ns.map V.int) → sp [.ref a] H (fun v _ => v = .bl true) fun _ _ _ => False) :
    codeAny (model P w) callerA (.call (.ref fa) ⟨[.ref a], []⟩) (fun r s' => r = .ok (.ret (.bool true)) ∧ OldK s.heap s'.heap ∧ s'.os = s.os ∧ AllBare s'.gens) s := by
  have rv := vals_ints hi
  have hz := hi.length
  let ob : Obj := { cls := .type "list", data := .seq vs.toArray }
  let H : Hp := H1st K a ob (ns.map V.int)
  have hok : HOk P w H s.heap := fun b u e => by
    obtain ⟨rfl, _, rfl⟩ := h1_at e
    exact ⟨ha, by rw [List.length_map]; exact hl, vs, _, rv, ha⟩
  have hS : SqL K H a (ns.map V.int) := by
    cases q : K.lookup a with
    | none => exact .inl (.inr ⟨ob, by show H1st K a ob _ a = _; unfold H1st; rw [if_pos rfl, q]⟩)
    | some u =>
      have e := KX a u q
      rw [ha] at e
      cases e
      exact .inr ⟨_, vs.toArray, _, q, rfl, rfl, rfl, by rw [List.size_toArray, hz]; exact hl, by simpa using rv⟩
  have free : ∀ {b : Addr} {u : Obj}, s.heap.get? b = some u → (∀ z n, u.data ≠ .seq z n) → H b = none := fun {b u} e d => by
    cases q : H b with
    | none => rfl
    | some v =>
      obtain ⟨rfl, _, _⟩ := h1_at q
      rw [ha] at e
      cases e
      exact absurd rfl (d _ _)
  have nsK : ∀ {b : Addr} {m : Str → Option Value}, s.heap.Ns b m → (hidT s.heap H).Ns b m := fun {b m} ⟨u, es, ep, e, d, r⟩ => ⟨u, es, ep, hidT_get e (free e fun z n => by rw [d]; intro q; cases q), d, r⟩
  have hKb : K.In (hidT s.heap H) := fun b u e => hidT_get (KX b u e) (by
    cases q : H b with
    | none => rfl
    | some v =>
      obtain ⟨rfl, q2, _⟩ := h1_at q
      rw [q2] at e
      cases e)
  obtain ⟨mc, l1, l2⟩ := hlim
  have e0 : Env0 P w K mg (hidT s.heap H) callerA [] s H := ⟨rfl, ⟨hKb, nsK hns, ⟨mb, nsK hb, hbb⟩, mc, nsK l1, l2⟩, fun b u e => of_hidT e, Nat.le_of_eq (hidT_size _ _), trivial, fun b z => (nomatch z), hok, .of_eq hg⟩
  refine codeAny_mono ((F _ hKb (nsK hns)).run callerA [] s H ⟨[.ref a], []⟩ [.ref a] [.ref a] _ _ hr e0 (hbind s (.ref a)) (.cons rfl .nil) (hsp H h1_only hS)) fun r s' z => ?_
  cases r with
  | error e => cases z
  | ok fl =>
    cases fl with
    | next => cases z
    | brk => cases z
    | cont => cases z
    | ret u =>
      obtain ⟨v, H', os, bare, un, hok', r', q⟩ := z
      obtain rfl : v = .bl true := q
      obtain rfl : u = Value.bool true := r'
      refine ⟨rfl, OldK.of_keep fun b u e => ?_, os, bare⟩
      cases q : H b with
      | none => exact un.keep b u e q (fun z => (nomatch z)) (fun z => (nomatch z))
      | some y =>
        obtain ⟨rfl, _, rfl⟩ := h1_at q
        obtain ⟨e2, _⟩ := hok' b _ (un.frzs b _ _ q)
        rw [ha] at e
        cases e
        exact e2
theorem walk_G {l : PySem.W.OpenLaw} {n k : Nat} {q : Program} {loose : List Str} {XP : (Str → Option Value) → Heap → Prop} {YP : World → Heap → Prop} {d : DefRec} {K : Params → PySem.W.Frag} {sp : PySem.W.Frag → Sp} {x : Str} (hn : l.most = some n) (hn2 : n ≤ sizeLine)
    (hdf : d.params.defaults = []) (hr : RoomG k callerA) (hY : ∀ (w : World) (h : Heap), YP w h → (K w.params).In h)
    (F : ∀ (w : World) (mg : Str → Option Value) (fa : Addr) (h : Heap), (K w.params).In h → h.Ns mainGlobals mg → mg d.name = some (.ref fa) → ∃ fd : FuncData, (∀ (s : Shared) (u : Value), BindsTo s fd ⟨[u], []⟩ [(x, u)]) ∧
      ∀ base : Heap, (K w.params).In base → base.Ns mainGlobals mg → FnG l.prog w (K w.params) mg base CX0 k fa fd [x] (sp (K w.params)))
    (hsp : ∀ (K : PySem.W.Frag) (H : Hp) (a : Addr) (ns : List Int), ns.length ≤ n → Only H → SqL K H a (ns.map V.int) → sp K [.ref a] H (fun v _ => v = .bl true) fun _ _ _ => False) :
    PySem.W.WalkO q loose XP YP l.row.toRowW d [] (fun f vs => PySem.call f vs) := by
  refine Att.attach_call hn hdf fun w s₀ s₁ mg mb fa o pm cd doc a vs ns G Y ho hd hcd hmg hobj hints hlen hg => ?_
  obtain ⟨fd, hb, hF⟩ := F w mg fa _ (hY w _ Y) G.T.g hmg
  exact law_G (hY w _ Y) G.T.g G.T.b G.T.builtins G.T.nolimit hg hobj hints (Nat.le_trans hlen hn2) hr hF hb fun H hO hS => hsp _ H a ns hlen hO hS
end Fu

/-! repr of data. -/
namespace Fu
open PySem L2
open PyProof.Rows hiding St
open L2H (RoomH roomH_of)
/-- how a Ratio is written -/
def rTxt (n m : Int) : Str := if m = 1 then (toString n : String) else Str.ofString (toString n) ++ "/" ++ Str.ofString (toString m)
mutual
def txt : D → Str
  | .non => "None"
  | .bl b => if b then "True" else "False"
  | .int i => (toString i : String)
  | .str x => reprText x
  | .lst l => listText (txts l)
  | .tup l => tupleText (txts l)
  | .dic => dictText []
  | .rat n m => rTxt n m
def txts : List D → List Str
  | [] => []
  | d :: l => txt d :: txts l
end
mutual
/-- the datum as the library's own; no Ratio in it -/
def pd : D → PyData
  | .non => .none
  | .bl b => .bool b
  | .int i => .int i
  | .str x => .str x
  | .lst l => .list (pds l)
  | .tup l => .tuple (pds l)
  | .dic => .dict []
  | .rat _ _ => .none
def pds : List D → List PyData
  | [] => []
  | d :: l => pd d :: pds l
end
mutual
/-- no Ratio and no dict in it -/
def inner : D → Bool
  | .lst l => inners l
  | .tup l => inners l
  | .rat _ _ => false
  | .dic => false
  | _ => true
def inners : List D → Bool
  | [] => true
  | d :: l => inner d && inners l
end
mutual
theorem inner_dict : ∀ d : D, inner d = true → (pd d).hasDict = false
  | .non, _ => rfl
  | .bl b, _ => rfl
  | .int i, _ => rfl
  | .str x, _ => rfl
  | .lst l, h => inners_dict l h
  | .tup l, h => inners_dict l h
theorem inners_dict : ∀ l : List D, inners l = true → PyData.hasDictAll (pds l) = false
  | [], _ => rfl
  | d :: l, h => by
    have h' : (inner d && inners l) = true := h
    rw [Bool.and_eq_true] at h'
    show ((pd d).hasDict || PyData.hasDictAll (pds l)) = false
    rw [inner_dict d h'.1, inners_dict l h'.2]
    rfl
end
mutual
theorem shown_pd : ∀ d : D, inner d = true → (pd d).shown = txt d
  | .non, _ => rfl
  | .bl b, _ => rfl
  | .int i, _ => rfl
  | .str x, _ => rfl
  | .lst l, h => by
    show listText (PyData.shownAll (pds l)) = listText (txts l)
    rw [shown_pds l h]
  | .tup l, h => by
    show tupleText (PyData.shownAll (pds l)) = tupleText (txts l)
    rw [shown_pds l h]
theorem shown_pds : ∀ l : List D, inners l = true → PyData.shownAll (pds l) = txts l
  | [], _ => rfl
  | d :: l, h => by
    have h' : (inner d && inners l) = true := h
    rw [Bool.and_eq_true] at h'
    show (pd d).shown :: PyData.shownAll (pds l) = txt d :: txts l
    rw [shown_pd d h'.1, shown_pds l h'.2]
end
section
variable {X : Cx} {C : Addr} {pins : List (Addr × Obj)} {σ : St} {H : Hp} {s : Shared}
mutual
theorem At.reads (I : Inv X pins σ H s) : ∀ (d : D) (v : V) (u : Value), inner d = true → At C H d v → RelV v u → ∃ as, Reads s.heap u (pd d) as
  | .non, _, _, _, h, r => by
    cases h
    cases r
    exact ⟨[], .none⟩
  | .bl b, _, _, _, h, r => by
    cases h
    cases r
    exact ⟨[], .bool b⟩
  | .int i, _, _, _, h, r => by
    cases h
    obtain ⟨t, rfl⟩ := r
    exact ⟨[], .int i t⟩
  | .str x, _, _, _, h, r => by
    cases h
    obtain ⟨t, rfl⟩ := r
    exact ⟨[], .str x t⟩
  | .lst l, _, _, hn, h, r => by
    obtain ⟨a, xs, rfl, ha, hs⟩ := h
    cases r
    obtain ⟨_, its, n, rv, e⟩ := (show ObjOk X.prog X.w H s.heap a (.lst xs) from I.hok a _ ha)
    obtain ⟨as, q⟩ := Ats.reads I l xs its hn hs rv
    exact ⟨a :: as, .list e rfl rfl (by simpa using q)⟩
  | .tup l, _, _, hn, h, r => by
    obtain ⟨a, xs, rfl, ha, hs⟩ := h
    cases r
    obtain ⟨_, its, rv, o, e, hc, n, hd⟩ := (show ObjOk X.prog X.w H s.heap a (.tup xs) from I.hok a _ ha)
    obtain ⟨as, q⟩ := Ats.reads I l xs its hn hs rv
    exact ⟨as, .tuple e hc hd (by simpa using q)⟩
theorem Ats.reads (I : Inv X pins σ H s) : ∀ (l : List D) (xs : List V) (us : List Value), inners l = true → Ats C H l xs → Vals xs us → ∃ as, ReadsAll s.heap us (pds l) as
  | [], _, _, _, h, r => by
    cases h
    cases r
    exact ⟨[], .nil⟩
  | d :: l, _, _, hn, h, r => by
    have h' : (inner d && inners l) = true := hn
    rw [Bool.and_eq_true] at h'
    obtain ⟨x, ys, rfl, h1, h2⟩ := h
    cases r with
    | cons r1 r2 =>
      obtain ⟨as, q1⟩ := At.reads I d _ _ h'.1 h1 r1
      obtain ⟨bs, q2⟩ := Ats.reads I l _ _ h'.2 h2 r2
      exact ⟨_, .cons q1 q2⟩
end
theorem dic_reads (I : Inv X pins σ H s) {a : Addr} (ha : H a = some (.dK [])) : Reads s.heap (.ref a) (.dict []) [a] ∧ a ≠ sysModules := by
  obtain ⟨_, hy, vs, kv, o, es, ep, e, hx, hd, hr⟩ := (show ObjOk X.prog X.w H s.heap a (.dK []) from I.hok a _ ha)
  cases kv
  obtain ⟨_, hp, _⟩ := hr
  have z : es.toList = [] := by
    generalize es.toList = l at hp
    cases hp
    rfl
  refine ⟨.dict (as := []) (bs := []) e hx.1 hd (by rw [z]; exact .nil) (by rw [z]; exact .nil), fun q => ?_⟩
  rw [q] at hy
  simp at hy
end
/-- what the written part says of Ratio's own repr -/
structure ReprC (P : Program) (w : World) (K : PySem.W.Frag) (mg : Str → Option Value) (base : Heap) (C f : Addr) (fd : FuncData) (sp : Sp) : Prop where
  ok : FnA P w K mg base 1 f fd ["self"] sp
  hs : PySem.W.findIn K (.ref C) "__repr__" = some (some (.ref f))
  hf : PySem.W.isFn K (.ref f) = true
  b : Binds K fd ["self"] []
/-- the promise of Ratio's own repr -/
def spRepr (C : Addr) : Sp := fun vs H Q _ => ∃ (a dx : Addr) (n m : Int), vs = [.ref a] ∧ H a = some (.ins C dx (rf n m)) ∧ n.natAbs.log2 < 1900 ∧ m.natAbs.log2 < 1900 ∧ Q (.str (rTxt n m)) H
/-- what can be written -/
def shw : D → Bool
  | .rat n m => decide (n.natAbs.log2 < 1900) && decide (m.natAbs.log2 < 1900)
  | .dic => true
  | d => inner d && (pd d).showable && decide ((pd d).depth ≤ 60) && decide ((txt d).length ≤ 1000000)
def rRepr (C : Addr) : List V → Hp → VK → Prop := fun xs H Q => ∃ (d : D) (v : V), xs = [v] ∧ At C H d v ∧ shw d = true ∧ Q (.str (txt d)) H
theorem RoomH.in1 {k : Nat} {A : Around} (h : RoomH (k + 1) A) : RoomH k A.in1 := ⟨by have := h.dp; show A.depth + 3 * k + 5 < _; omega, by have := h.un; show A.units + 1 + 16 * k + 200 < _; omega⟩
theorem RoomH.mark {k : Nat} {A : Around} (h : RoomH k A) (x : Option Value) : RoomH k (A.mark x) := ⟨h.dp, h.un⟩
theorem call_reprD {X : Cx} {C f : Addr} {fd : FuncData} (T : ReprC X.prog X.w X.K X.mg X.base C f fd (spRepr C)) (hg : X.A.guards = some []) (hr : RoomH 2 X.A) : CallR X (.builtin "repr") (rRepr C) := by
  intro pins s σ H xs us Q I r h
  obtain ⟨d, v, rfl, a, sh, q⟩ := h
  obtain ⟨u, rfl, ru⟩ := vals1 r
  have big : ∀ {n : Nat}, n ≤ 1000000 → n ≤ sizeLine := fun h => Nat.le_trans h (by rw [sizeLine_eq]; decide)
  cases d with
  | rat n m =>
    obtain ⟨p, dx, rfl, hp⟩ := a
    obtain rfl : u = Value.ref p := ru
    have sh' : (decide (n.natAbs.log2 < 1900) && decide (m.natAbs.log2 < 1900)) = true := sh
    rw [Bool.and_eq_true, decide_eq_true_eq, decide_eq_true_eq] at sh'
    obtain ⟨od, J⟩ := inst_of I hp
    obtain ⟨mm, hF⟩ := I.fr
    refine PySem.W.repr_K (by have := hr.un; show X.A.units + 1 < cLine; omega) hF I.ok.mod.kin J T.hs T.hf ?_
    refine thn (run_any (A := X.A.in1) (E := E0) (us := [.ref p]) (vs := [.ref p]) T.ok (RoomH.in1 hr) I.ok.frames T.b I (.cons rfl .nil) (Q := fun v H' => v = .str (rTxt n m) ∧ Q v H') ⟨p, dx, n, m, rfl, hp, sh'.1, sh'.2, rfl, q⟩) fun u s' hh => ?_
    obtain ⟨v, H', I', rv, rfl, q'⟩ := hh
    obtain ⟨t, rfl⟩ := rv
    exact ⟨.str (rTxt n m), H', I', ⟨t, rfl⟩, q'⟩
  | dic =>
    obtain ⟨p, rfl, hp⟩ := a
    obtain rfl : u = Value.ref p := ru
    obtain ⟨rd, ne⟩ := dic_reads I hp
    exact repr_of_reads' rd rfl (fun _ z => ne (List.mem_singleton.mp z).symm) hg (by have := hr.un; show X.A.units + (1 + 1) < cLine; omega) (fun _ _ e => e) (fun h' t tk k => ⟨.str _, H, I.kept k, ⟨_, rfl⟩, q⟩) (big (by decide +kernel))
  | non =>
    obtain rfl : v = .non := a
    obtain rfl : u = Value.none := ru
    exact PySem.P.repr_of_none ⟨.str _, H, I.tok _, ⟨_, rfl⟩, q⟩
  | bl b =>
    obtain rfl : v = .bl b := a
    obtain rfl : u = Value.bool b := ru
    exact PySem.P.repr_of_bool ⟨.str _, H, I.tok _, ⟨_, rfl⟩, q⟩
  | int i =>
    obtain rfl : v = .int i := a
    obtain ⟨t, rfl⟩ := ru
    have sh' : (true && decide (i.natAbs.log2 < 1920) && decide ((pd (.int i)).depth ≤ 60) && decide ((txt (.int i)).length ≤ 1000000)) = true := sh
    rw [Bool.and_eq_true, Bool.and_eq_true, Bool.true_and, decide_eq_true_eq] at sh'
    exact PySem.P.repr_of_int sh'.1.1 ⟨.str _, H, I.tok _, ⟨_, rfl⟩, q⟩
  | str x =>
    obtain rfl : v = .str x := a
    obtain ⟨t, rfl⟩ := ru
    have sh' : (true && true && decide ((pd (.str x)).depth ≤ 60) && decide ((reprText x).length ≤ 1000000)) = true := sh
    rw [Bool.and_eq_true, decide_eq_true_eq] at sh'
    exact PySem.P.repr_of_str ⟨.str _, H, I.tok _, ⟨_, rfl⟩, q⟩ (big sh'.2)
  | lst l =>
    have sh' : (inner (.lst l) && (pd (.lst l)).showable && decide ((pd (.lst l)).depth ≤ 60) && decide ((txt (.lst l)).length ≤ 1000000)) = true := sh
    rw [Bool.and_eq_true, Bool.and_eq_true, Bool.and_eq_true, decide_eq_true_eq, decide_eq_true_eq] at sh'
    obtain ⟨⟨⟨s1, s2⟩, s3⟩, s4⟩ := sh'
    obtain ⟨as, rd⟩ := At.reads I _ _ _ s1 a ru
    obtain ⟨p, xs, rfl, _, _⟩ := a
    obtain rfl : u = Value.ref p := ru
    rw [← shown_pd _ s1] at q s4
    exact repr_of_reads' rd s2 (PyData.noDict_hsm (inner_dict _ s1)) hg (by have := hr.un; omega) (fun _ _ e => e) (fun h' t tk k => ⟨.str _, H, I.kept k, ⟨_, rfl⟩, q⟩) (big s4)
  | tup l =>
    have sh' : (inner (.tup l) && (pd (.tup l)).showable && decide ((pd (.tup l)).depth ≤ 60) && decide ((txt (.tup l)).length ≤ 1000000)) = true := sh
    rw [Bool.and_eq_true, Bool.and_eq_true, Bool.and_eq_true, decide_eq_true_eq, decide_eq_true_eq] at sh'
    obtain ⟨⟨⟨s1, s2⟩, s3⟩, s4⟩ := sh'
    obtain ⟨as, rd⟩ := At.reads I _ _ _ s1 a ru
    obtain ⟨p, xs, rfl, _, _⟩ := a
    obtain rfl : u = Value.ref p := ru
    rw [← shown_pd _ s1] at q s4
    exact repr_of_reads' rd s2 (PyData.noDict_hsm (inner_dict _ s1)) hg (by have := hr.un; omega) (fun _ _ e => e) (fun h' t tk k => ⟨.str _, H, I.kept k, ⟨_, rfl⟩, q⟩) (big s4)
end Fu

/-! isinstance of a caught error that has fields. -/
namespace Fu
open PySem L2
open PyProof.Rows hiding St
/-- isinstance(e, c), e the error that the suite holds at a (class cls, dict d) -/
def rIsX (K : PySem.W.Frag) (D a : Addr) (cls : Value) (d : Option Addr) : List V → Hp → VK → Prop := fun xs H Q => ∃ (c : V) (cv : Value) (b : Bool) (dd : Addr) (fs : List (Str × V)), xs = [.ref a, c] ∧ ClsV c cv ∧ cls = .ref D ∧ d = some dd ∧ H dd = some (.xd fs) ∧
  PySem.W.kitOne K (.ref D) cv = some b ∧ Q (.bl b) H
theorem call_isX {X : Cx} {a D : Addr} {oe : Obj} {cls : Value} {d : Option Addr} {pn : List (Addr × Obj)} (T : ExcC X.K D) (hz : Zc cls d oe) (hf : ∃ vs, oe.data = .fields vs) : CallR (X.suite a ((a, oe) :: pn)) (.builtin "isinstance") (rIsX X.K D a cls d) := by
  intro pins s σ H xs us Q I r h
  obtain ⟨c, cv, b, dd, fs, rfl, hc, rfl, rfl, hd, e, q⟩ := h
  obtain ⟨u, t, rfl, ru, rt⟩ := vals2 r
  obtain rfl : u = Value.ref a := ru
  have ec := hc.eq rt
  subst ec
  have ha := (I.pin (a, oe) (List.mem_append_left _ List.mem_cons_self)).1
  obtain ⟨vs, hv⟩ := hf
  obtain ⟨mA, hns, _⟩ := (show ObjOk X.prog X.w H s.heap dd (.xd fs) from I.hok dd _ hd)
  obtain ⟨od, ho, _⟩ := lookIn_ns hns
  have J : PySem.W.InstAt s.heap a oe D (some od) := ⟨ha, hz.1, by unfold PySem.W.notCls; rw [hv] <;> rfl, by rw [hz.2]; exact ho⟩
  have hcl : (PySem.W.clsIn X.K D).isSome = true := by
    obtain ⟨cd, hc, _⟩ := PySem.W.any_some T.hd
    rw [hc]
    rfl
  exact PySem.W.kia_one (PySem.W.kitx_exc hcl T.hg T.hk T.hs T.ha T.hn T.ht T.hm) I.kIn J e (fun z => nomatch z) fun tk => ⟨.bl b, H, I.kept (t' := tk) fun _ _ z => z, rfl, q⟩
end Fu

/-! x != y by an own __eq__; y == x, y a built-in's value, x an own instance. -/
namespace PySem.W
open PySem PySem.Calls PyProof.Rows Builtin
section
variable {prog : Program} {w : World} {A : Around} {E : Value → Shared → Prop} {s : Shared} {K : Frag} {x C L f : Addr} {h₀ : Heap} {m : Str → Option Value} {ox : Obj} {od : Option Obj} {b tb : Value}
/-- a rich comparison by what the left one answers -/
theorem fu_left {op : CmpOp} {Q : Value → Shared → Prop} (hu : A.units < cLine) (X : K.In s.heap) (I : InstAt s.heap x ox C od) (hb : Looks (model prog w) s.heap (typeOf b) tb) (hn : notFirst K C tb = true)
    (one : wpAny (model prog w) A (tryCompare (.ref x) (cmpInfo op).2.1 b) (fun r s' => ∃ v, r = some v ∧ Q v s') E s) : wpAny (model prog w) A (richCompare op (.ref x) b) Q E s := by
  have fin : ∀ (r : Option Value) (s' : Shared) (k : Sem Value), (∃ v, r = some v ∧ Q v s') → wpAny (model prog w) A (match r with | some v => pure v | none => k) Q E s' := by
    rintro r s' k ⟨v, rfl, q⟩
    exact wpAny_pure q
  unfold richCompare
  simp only [oneThing_ref]
  refine wpAny_holding (wpAny_bind (wpAny_cRoomFor hu (wpAny_bind (I.type.here (wpAny_bind (hb.here ?_))))))
  by_cases e : (Value.ref C != tb) = true
  · rw [if_pos e]
    have e2 : subIn K tb (.ref C) = some false := by
      rcases Bool.or_eq_true_iff.mp hn with z | z
      · rw [beq_iff_eq.mp z] at e
        simp at e
      · exact beq_iff_eq.mp z
    refine wpAny_bind ((looks_subIn X e2).here ?_)
    simp only [Bool.false_eq_true, if_false]
    refine wpAny_bind (wpAny_mono one (fun r s' z => ?_) fun _ _ e => e)
    obtain ⟨v, rfl, q⟩ := z
    exact wpAny_pure q
  · rw [if_neg e]
    refine wpAny_bind (wpAny_pure ?_)
    simp only [Bool.false_eq_true, if_false]
    refine wpAny_bind (wpAny_mono one (fun r s' z => ?_) fun _ _ e => e)
    obtain ⟨v, rfl, q⟩ := z
    exact wpAny_pure q
theorem fu_neBind (self : Value) : bindSpecial (.builtin "object.__ne__") self = pure (.builtin "object.__ne__", [self]) :=
  (Slot.of (T := "object") (name := "__ne__") (owner := "object") (n := "__ne__") (by rw [typeLookup_type, builtinLookup_eq_fast]; kernel_rfl) (by decide +kernel) (by decide +kernel) (by decide +kernel) (.inl (by decide +kernel)) (by rw [isSubtype_type]; kernel_rfl)).bind self
theorem fu_nePlain : plainId "object.__ne__" = true := by decide +kernel
/-- x != b by x's own __eq__, that answers a truth value -/
theorem fu_ne {Q : Value → Shared → Prop} (hu : A.in1.units < cLine) (X : K.In s.heap) (I : InstAt s.heap x ox C od) (hb : Looks (model prog w) s.heap (typeOf b) tb) (hn : notFirst K C tb = true) (hm : mroIn K C (.type "object") = some true)
    (hne : findIn K (.ref C) "__ne__" = some (some (.builtin "object.__ne__"))) (hs : findIn K (.ref C) "__eq__" = some (some (.ref f))) (hf : isFn K (.ref f) = true)
    (h : wpAny (model prog w) A.in1 (call (.ref f) [.ref x, b]) (fun v s' => ∃ c, v = .bool c ∧ Q (.bool (!c)) s') E s) : wpAny (model prog w) A (richCompare .NotEq (.ref x) b) Q E s := by
  refine fu_left (op := .NotEq) (by have : A.units + 1 < cLine := hu; omega) X I hb hn ?_
  unfold tryCompare
  have sub : Looks (model prog w) s.heap (isInstance (.ref x) (.type "object")) true := I.type.andThen (looks_mroIn X hm)
  have core : wpAny (model prog w) A (call (.builtin "object.__ne__") [.ref x, b]) (fun v s' => ∃ c, v = .bool c ∧ Q v s') E s := by
    refine wpAny_call (codeAny_call_builtin fu_nePlain PySem.F.cmpEntry_ne (@check_slot (model prog w) _ _ s "object.__ne__" "object" "__ne__" (.ref x) [b] [] _ PySem.F.cmpKind_ne PySem.F.cmpSplit_ne sub (PySem.F.cmpArgs_ne _ _) ?_))
    unfold Builtin.«object.__ne__»
    refine wpAny_bind (wpAny_of_eq (a := ((Value.ref x : Value), [b])) (by first | rfl | (simp only [slotArgs]; rfl)) ?_)
    refine wpAny_bind (wpAny_cRoomFor hu (wpAny_bind (ifBound_K X I hs hf (wpAny_mono h (fun v s' z => ?_) fun _ _ e => e))))
    obtain ⟨c, rfl, q⟩ := z
    show wpAny _ _ (truthy (.bool c) >>= fun r => ret (.bool (!r))) _ _ _
    exact wpAny_bind (wpAny_truthy_bool (wpAny_pure ⟨_, rfl, q⟩))
  refine wpAny_bind ?_
  simp only [callSpecialIfBound?, bindSpecialIfBound?]
  refine wpAny_holding (wpAny_bind (wpAny_bind (wpAny_bind (I.type.here ((looks_findIn X hne).here ?_)))))
  simp only [fu_neBind]
  refine wpAny_bind (wpAny_askSetting (wpAny_ite ?_))
  have fin : wpAny (model prog w) A (call (.builtin "object.__ne__") ([.ref x] ++ [b]) >>= fun v => pure (some v)) (fun r s₁ => wpAny (model prog w) A (match r with | some .notImplemented => pure none | none => pure none | some v => pure (some v)) (fun r s' => ∃ v, r = some v ∧ Q v s') E s₁) E s := by
    refine wpAny_bind (wpAny_mono core (fun v s' z => ?_) fun _ _ e => e)
    obtain ⟨c, rfl, q⟩ := z
    exact wpAny_pure (wpAny_pure ⟨_, rfl, q⟩)
  split
  · exact wpAny_bind (wpAny_pure (wpAny_pure fin))
  · exact wpAny_tryCatch (wpAny_bind (wpAny_pure (wpAny_pure fin)))
/-- a rich comparison of a built-in's value with an own instance, by what the instance answers -/
theorem fu_right {op : CmpOp} {a : Value} {T i : String} {Q : Value → Shared → Prop} (hu : A.units < cLine) (X : K.In s.heap) (I : InstAt s.heap x ox C od) (ha : s.TypeIs a T) (S : Slot T (cmpInfo op).2.1 i) (hm : mroIn K C (.type T) = some false)
    (hc : ∀ Q' : Value → Shared → Prop, Q' .notImplemented s → wpAny (model prog w) A (call (.builtin i) [a, .ref x]) Q' E s) (hs : findIn K (.ref C) (cmpInfo op).2.2 = some (some (.ref f))) (hf : isFn K (.ref f) = true)
    (h : wpAny (model prog w) A (call (.ref f) [.ref x, a]) (CmpBack Q) E s) : wpAny (model prog w) A (richCompare op a (.ref x)) Q E s := by
  have one : wpAny (model prog w) A (tryCompare (.ref x) (cmpInfo op).2.2 a) (fun r s' => ∃ v, r = some v ∧ Q v s') E s := by
    unfold tryCompare
    refine wpAny_bind (ifBound_K X I hs hf (wpAny_mono h (fun v s' hv => ?_) fun _ _ e => e))
    cases v <;> first | exact hv.elim | exact wpAny_pure ⟨_, rfl, hv⟩
  unfold richCompare
  simp only [ha.oneThing_none]
  refine wpAny_holding (wpAny_bind (wpAny_cRoomFor hu (wpAny_bind (wpAny_typeOf ha (wpAny_bind (I.type.here ?_))))))
  rw [if_pos (show (Value.type T != Value.ref C) = true from rfl)]
  refine wpAny_bind ((looks_mroIn X hm).here ?_)
  simp only [Bool.false_eq_true, if_false, Bool.not_false, if_true]
  refine wpAny_bind (m := tryCompare a _ (.ref x)) (wpAny_tryCompare_declines ha S (hc _ ⟨rfl, ?_⟩))
  refine wpAny_bind (wpAny_mono one (fun r s' z => ?_) fun _ _ e => e)
  obtain ⟨v, rfl, q⟩ := z
  exact wpAny_pure q
end
end PySem.W

/-! What the built-ins' own == answers of an own instance: NotImplemented. -/
namespace PySem.W
open PySem PySem.Calls PyProof.Rows Builtin
section
variable {prog : Program} {w : World} {A : Around} {E : Value → Shared → Prop} {s : Shared} {K : Frag} {x C dx l : Addr} {Q : Value → Shared → Prop}
theorem fu_dBool {b : Bool} (hx : s.heap.get? x = some (instObj C dx)) (h : Q .notImplemented s) : wpAny (model prog w) A (call (.builtin "int.__eq__") [.bool b, .ref x]) Q E s := by
  refine GQ.call_here PySem.F.slot_bool_eq rfl PySem.F.entry_int_eq (PySem.F.args_int_eq_2 _ _) ?_
  obtain ⟨hp, g, d, tk, os⟩ := s
  wp_walk using wpAny_loadPart' hx
  exact h
theorem fu_dInt {i : Int} {t : Tok} (hx : s.heap.get? x = some (instObj C dx)) (h : Q .notImplemented s) : wpAny (model prog w) A (call (.builtin "int.__eq__") [.int i t, .ref x]) Q E s := by
  refine GQ.call_here PySem.F.slot_int_eq (typeIs_int s i t) PySem.F.entry_int_eq (PySem.F.args_int_eq_2 _ _) ?_
  obtain ⟨hp, g, d, tk, os⟩ := s
  wp_walk using wpAny_loadPart' hx
  exact h
theorem fu_dNone (h : Q .notImplemented s) : wpAny (model prog w) A (call (.builtin "NoneType.__eq__") [.none, .ref x]) Q E s :=
  call_gives PySem.F.slot_NoneType_eq rfl PySem.F.entry_NoneType_eq (PySem.F.args_NoneType_eq_2 _ _) (SeqAt.NoneType___eq___none_ref_0 x) h
theorem fu_dStr {z : Str} {t : Tok} (hx : s.heap.get? x = some (instObj C dx)) (h : Q .notImplemented s) : wpAny (model prog w) A (call (.builtin "str.__eq__") [.str z t, .ref x]) Q E s := by
  refine GQ.call_here PySem.F.slot_str_eq (typeIs_str s z t) PySem.F.entry_str_eq (PySem.F.args_str_eq_2 _ _) ?_
  obtain ⟨hp, g, d, tk, os⟩ := s
  wp_walk using wpAny_loadPart' hx
  exact h
theorem fu_dList {o : Obj} (hl : s.heap.get? l = some o) (hc : o.cls = .type "list") (hi : Looks (model prog w) s.heap (isInstance (.ref x) (.type "list")) false) (h : Q .notImplemented s) : wpAny (model prog w) A (call (.builtin "list.__eq__") [.ref l, .ref x]) Q E s := by
  refine GQ.call_here PySem.F.slot_list_eq ⟨o, hl, hc⟩ PySem.F.entry_list_eq (PySem.F.args_list_eq_2 _ _) ?_
  unfold Builtin.«list.__eq__»
  refine wpAny_bind (wpAny_of_eq (a := ((Value.ref l : Value), [Value.ref x])) (by first | rfl | (simp only [slotArgs]; rfl)) ?_)
  refine wpAny_bind (hi.here ?_)
  exact wpAny_pure h
theorem fu_dTup {o : Obj} (hl : s.heap.get? l = some o) (hc : o.cls = .type "tuple") (hi : Looks (model prog w) s.heap (isInstance (.ref x) (.type "tuple")) false) (h : Q .notImplemented s) : wpAny (model prog w) A (call (.builtin "tuple.__eq__") [.ref l, .ref x]) Q E s := by
  refine GQ.call_here PySem.F.slot_tuple_eq ⟨o, hl, hc⟩ PySem.F.entry_tuple_eq (PySem.F.args_tuple_eq_2 _ _) ?_
  unfold Builtin.«tuple.__eq__»
  refine wpAny_bind (wpAny_of_eq (a := ((Value.ref l : Value), [Value.ref x])) (by first | rfl | (simp only [slotArgs]; rfl)) ?_)
  refine wpAny_bind (hi.here ?_)
  exact wpAny_pure h
theorem fu_dDict {o : Obj} (hl : s.heap.get? l = some o) (hc : o.cls = .type "dict") (hi : Looks (model prog w) s.heap (isInstance (.ref x) (.type "dict")) false) (h : Q .notImplemented s) : wpAny (model prog w) A (call (.builtin "dict.__eq__") [.ref l, .ref x]) Q E s := by
  refine GQ.call_here PySem.F.slot_dict_eq ⟨o, hl, hc⟩ PySem.F.entry_dict_eq (PySem.F.args_dict_eq_2 _ _) ?_
  unfold Builtin.«dict.__eq__»
  refine wpAny_bind (wpAny_of_eq (a := ((Value.ref l : Value), (Value.ref x : Value))) (by first | rfl | (simp only [Builtin.Dict.dictSlotArgs, slotArgs]; rfl)) ?_)
  refine wpAny_bind (hi.here ?_)
  exact wpAny_bind (wpAny_rule (wpAny_pure h))
end
end PySem.W
namespace Fu
open PySem L2
open PyProof.Rows hiding St
/-- a callee that lets nothing out, run at another place of the same frame -/
theorem run_at {X : Cx} {A : Around} {k : Nat} {f : Addr} {fd : FuncData} {ps : List Str} {sp : Sp} {pins : List (Addr × Obj)} {σ : St} {H : Hp} {s : Shared} {Q : VK} {E : XK} {us : List Value} {vs : List V} (F : FnOk X.prog X.w X.K X.mg X.base CX0 k f fd ps sp)
    (hr : Room k A) (hf : A.frames = some X.stack) (hb : Binds X.K fd ps []) (I : Inv X pins σ H s) (r : Vals vs us) (h : sp vs H Q E) : wpAny (model X.prog X.w) A (call (.ref f) us) (EP X pins σ Q) X.xe s := by
  have e := I.env0
  have b := hb s us I.kIn (by rw [List.append_nil, ← r.length]; exact F.len _ _ _ _ h)
  rw [List.append_nil] at b
  refine wpAny_call (codeAny_mono (F.run A X.stack s H ⟨us, []⟩ us vs Q E hr ⟨hf, e.mod, e.bs, e.bsz, e.funs, e.frf, e.hok, e.bare⟩ b r h) fun z s' hq => ?_)
  cases z with
  | error e => cases hq
  | ok fl =>
    cases fl with
    | ret u => exact I.after hq
    | next => cases hq
    | brk => cases hq
    | cont => cases hq
section
variable {X : Cx} {k : Nat} {f C : Addr} {fd : FuncData} {ps : List Str} {sp : Sp}
/-- x != y, x an own instance with an own __eq__ -/
def rNeOwn (K : PySem.W.Frag) (C : Addr) (sp : Sp) : R2 := fun x y H Q => ∃ a dx fs t, x = .ref a ∧ H a = some (.ins C dx fs) ∧ TyX K H y t ∧ PySem.W.notFirst K C t = true ∧ sp [.ref a, y] H (fun v H' => ∃ c, v = .bl c ∧ Q (.bl (!c)) H') E0
theorem op_neOwn (F : FnOk X.prog X.w X.K X.mg X.base CX0 k f fd ps sp) (hr : Room (k + 1) X.A) (hm : PySem.W.mroIn X.K C (.type "object") = some true) (hne : PySem.W.findIn X.K (.ref C) "__ne__" = some (some (.builtin "object.__ne__")))
    (hs : PySem.W.findIn X.K (.ref C) "__eq__" = some (some (.ref f))) (hf : PySem.W.isFn X.K (.ref f) = true) (hb : Binds X.K fd ps []) : OpR X (compareOp .NotEq) (rNeOwn X.K C sp) := by
  intro pins s σ H x y u v Q I rx ry h
  obtain ⟨a, dx, fs, t, rfl, ha, ty, hn, q⟩ := h
  obtain rfl : u = Value.ref a := rx
  obtain ⟨od, J⟩ := inst_of I ha
  obtain ⟨P, Z, p, _⟩ := kit_of I ry ty
  show wpAny _ _ (richCompare .NotEq (.ref a) v) _ _ _
  refine PySem.W.fu_ne (by have := hr.un; show X.A.units + 1 < cLine; omega) I.kIn J (Z.ty _ _ I.kIn p) hn hm hne hs hf ?_
  refine thn (run_at (A := X.A.in1) (E := E0) (us := [.ref a, v]) (vs := [.ref a, y]) F hr.in1 I.ok.frames hb I (.cons rfl (.cons ry .nil)) q) fun z s' hh => ?_
  obtain ⟨v', H', I', rv, c, rfl, q'⟩ := hh
  obtain rfl : z = Value.bool c := rv
  exact ⟨c, rfl, .bl (!c), H', I', rfl, q'⟩
/-- the class is no kind of the built-ins -/
structure NoB (K : PySem.W.Frag) (C : Addr) : Prop where
  m : ∀ T ∈ ["NoneType", "bool", "int", "str", "list", "tuple", "dict"], PySem.W.mroIn K C (.type T) = some false
/-- y == x, y a datum that is no Ratio, x an own instance with an own __eq__ -/
def rEqRefl (C : Addr) (sp : Sp) : R2 := fun y x H Q => ∃ d a dx fs, At C H d y ∧ (∀ n m, d ≠ .rat n m) ∧ x = .ref a ∧ H a = some (.ins C dx fs) ∧ sp [.ref a, y] H Q E0
theorem op_eqRefl (F : FnOk X.prog X.w X.K X.mg X.base CX0 k f fd ps sp) (hr : Room k X.A) (N : NoB X.K C) (hs : PySem.W.findIn X.K (.ref C) "__eq__" = some (some (.ref f))) (hf : PySem.W.isFn X.K (.ref f) = true) (hb : Binds X.K fd ps []) :
    OpR X (compareOp .Eq) (rEqRefl C sp) := by
  intro pins s σ H y x v u Q I ry rx h
  obtain ⟨d, a, dx, fs, ad, nr, rfl, ha, q⟩ := h
  obtain rfl : u = Value.ref a := rx
  obtain ⟨od, J⟩ := inst_of I ha
  have hx := J.1
  have hin : ∀ T, PySem.W.mroIn X.K C (.type T) = some false → PySem.W.Looks (model X.prog X.w) s.heap (isInstance (.ref a) (.type T)) false := fun T h => J.type.andThen (PySem.W.looks_mroIn I.kIn h)
  have back := fun (q : sp [.ref a, y] H Q E0) => thn (run_at (A := X.A) (E := E0) (us := [.ref a, v]) (vs := [.ref a, y]) F hr I.ok.frames hb I (.cons rfl (.cons ry .nil)) q) fun z s' hh => back_of hh
  show wpAny _ _ (richCompare .Eq v (.ref a)) _ _ _
  cases d with
  | rat n m => exact absurd rfl (nr n m)
  | non =>
    obtain rfl : y = .non := ad
    obtain rfl : v = Value.none := ry
    exact PySem.W.fu_right hr.units0 I.kIn J rfl PySem.F.slot_NoneType_eq (N.m _ (by decide)) (fun _ h => PySem.W.fu_dNone h) hs hf (back q)
  | bl b =>
    obtain rfl : y = .bl b := ad
    obtain rfl : v = Value.bool b := ry
    exact PySem.W.fu_right hr.units0 I.kIn J rfl PySem.F.slot_bool_eq (N.m _ (by decide)) (fun _ h => PySem.W.fu_dBool hx h) hs hf (back q)
  | int i =>
    obtain rfl : y = .int i := ad
    obtain ⟨t, rfl⟩ := id ry
    exact PySem.W.fu_right hr.units0 I.kIn J (typeIs_int s i t) PySem.F.slot_int_eq (N.m _ (by decide)) (fun _ h => PySem.W.fu_dInt hx h) hs hf (back q)
  | str z =>
    obtain rfl : y = .str z := ad
    obtain ⟨t, rfl⟩ := id ry
    exact PySem.W.fu_right hr.units0 I.kIn J (typeIs_str s z t) PySem.F.slot_str_eq (N.m _ (by decide)) (fun _ h => PySem.W.fu_dStr hx h) hs hf (back q)
  | lst l =>
    obtain ⟨p, xs, rfl, hp, _⟩ := ad
    obtain rfl : v = Value.ref p := ry
    obtain ⟨_, its, n, _, e⟩ := (show ObjOk X.prog X.w H s.heap p (.lst xs) from I.hok p _ hp)
    exact PySem.W.fu_right hr.units0 I.kIn J ⟨_, e, rfl⟩ PySem.F.slot_list_eq (N.m _ (by decide)) (fun _ h => PySem.W.fu_dList e rfl (hin _ (N.m _ (by decide))) h) hs hf (back q)
  | tup l =>
    obtain ⟨p, xs, rfl, hp, _⟩ := ad
    obtain rfl : v = Value.ref p := ry
    obtain ⟨_, its, _, o, e, hc, _⟩ := (show ObjOk X.prog X.w H s.heap p (.tup xs) from I.hok p _ hp)
    exact PySem.W.fu_right hr.units0 I.kIn J ⟨_, e, hc⟩ PySem.F.slot_tuple_eq (N.m _ (by decide)) (fun _ h => PySem.W.fu_dTup e hc (hin _ (N.m _ (by decide))) h) hs hf (back q)
  | dic =>
    obtain ⟨p, rfl, hp⟩ := ad
    obtain rfl : v = Value.ref p := ry
    obtain ⟨_, _, _, _, o, _, _, e, hc, _⟩ := (show ObjOk X.prog X.w H s.heap p (.dK []) from I.hok p _ hp)
    exact PySem.W.fu_right hr.units0 I.kIn J ⟨_, e, hc.1⟩ PySem.F.slot_dict_eq (N.m _ (by decide)) (fun _ h => PySem.W.fu_dDict e hc.1 (hin _ (N.m _ (by decide))) h) hs hf (back q)
end
end Fu

/-! Operators of own instances: +, -, * on either side of an int, the orders on either side, -x, abs, bool, str. -/
namespace PySem.W
open PySem PySem.Calls PyProof.Rows Builtin
section
variable {prog : Program} {w : World} {A : Around} {E : Value → Shared → Prop} {s : Shared} {K : Frag} {x C dx f : Addr} {ox : Obj} {od : Option Obj} {Q : Value → Shared → Prop}
theorem fu_abs (X : K.In s.heap) (I : InstAt s.heap x ox C od) (hs : findIn K (.ref C) "__abs__" = some (some (.ref f))) (hf : isFn K (.ref f) = true) (h : wpAny (model prog w) A.in1 (call (.ref f) [.ref x]) Q E s) :
    wpAny (model prog w) A (call (.builtin "abs") [.ref x]) Q E s := by
  refine Calls.call_function_entry PyProof.Rows.kind_abs PyProof.Rows.plain_abs PyProof.Rows.entry_abs (PyProof.Rows.args_abs _) ?_
  unfold Builtin.«abs»
  refine wpAny_bind (m := oneArg "abs" _) (wpAny_pure ?_)
  refine wpAny_bind (m := callSpecial? (.ref x) (Str.ofString "__abs__")) (special_fn X I hs (beq_iff_eq.mp hf) (wpAny_mono h (fun r s' hr => ?_) fun _ _ y => y))
  exact wpAny_pure ⟨_, rfl, hr⟩
theorem fu_bool (X : K.In s.heap) (I : InstAt s.heap x ox C od) (hs : findIn K (.ref C) "__bool__" = some (some (.ref f))) (hf : isFn K (.ref f) = true)
    (h : wpAny (model prog w) A.in1.in1 (call (.ref f) [.ref x]) (fun v s' => ∃ c, v = .bool c ∧ Q (.bool c) s') E s) : wpAny (model prog w) A (call (.type "bool") [.ref x]) Q E s := by
  refine callType_newIn PySem.F.called_bool PySem.F.newNe_bool (PySem.F.typeCall_bool_1 _) (PySem.F.newCall_bool_1 _) (fun obj => PySem.F.args_object_init_2 obj _) PySem.F.entry_bool_new
    (S := fun A R s => ∃ (E' : Value → Shared → Prop), (∀ e s', E' e s' → R (.error e) s') ∧ K.In s.heap ∧ InstAt s.heap x ox C od ∧ wpAny (model prog w) A.in1 (call (.ref f) [.ref x]) (fun v s' => ∃ c, v = .bool c ∧ R (.ok (.ret (.bool c))) s') E' s)
    (MeetsIn.of_wp fun A R s hh => ?_) ⟨E, fun _ _ e => e, X, I, wpAny_mono h (fun v s' z => by obtain ⟨c, rfl, q⟩ := z; exact ⟨c, rfl, rfl, q⟩) fun _ _ e => e⟩
  obtain ⟨E', he, X', I', h'⟩ := hh
  obtain ⟨hp, g, d, tk, os⟩ := s
  have f1 := PySem.F.conv_sub_bool
  have tr : ∀ {Q' : Bool → Shared → Prop}, (∀ c s', R (.ok (.ret (.bool c))) s' → Q' c s') → wpAny (model prog w) A.in1 (truthy (.ref x)) Q' (fun e s' => R (.error e) s') ⟨hp, g, d, tk, os⟩ := fun {Q'} kk => by
    unfold truthy
    refine wpAny_bind (m := callSpecial? (.ref x) (Str.ofString "__bool__")) (special_fn X' I' hs (beq_iff_eq.mp hf) (wpAny_mono h' (fun r s' hr => ?_) fun _ _ y => he _ _ y))
    obtain ⟨c, rfl, q⟩ := hr
    exact wpAny_pure (kk c s' q)
  repeat (any_goals (first | assumption | (with_reducible refine tr fun c s' q => ?_) | wp_step))
  all_goals first | exact ⟨_, rfl, q⟩ | exact ⟨_, rfl, by assumption⟩ | skip
theorem fu_str (hu : A.in1.in1.units < cLine) (X : K.In s.heap) (I : InstAt s.heap x ox C od) (hs : findIn K (.ref C) "__str__" = some (some (.ref f))) (hf : isFn K (.ref f) = true)
    (h : wpAny (model prog w) A.in1.in1 (call (.ref f) [.ref x]) (fun v s' => ∃ z t, v = .str z t ∧ Q (.str z t) s') E s) : wpAny (model prog w) A (call (.type "str") [.ref x]) Q E s := by
  refine callType_newIn PySem.F.called_str (by decide) (PySem.F.typeCall_str_1 _) (PySem.F.newCall_str_1 _) (fun obj => PySem.F.args_object_init_2 obj _) PySem.F.entry_str_new
    (S := fun A R s => ∃ (E' : Value → Shared → Prop), (∀ e s', E' e s' → R (.error e) s') ∧ A.in1.units < cLine ∧ K.In s.heap ∧ InstAt s.heap x ox C od ∧ wpAny (model prog w) A.in1 (call (.ref f) [.ref x]) (fun v s' => ∃ z t, v = .str z t ∧ R (.ok (.ret (.str z t))) s') E' s)
    (MeetsIn.of_wp fun A R s hh => ?_) ⟨E, fun _ _ e => e, hu, X, I, wpAny_mono h (fun v s' z => by obtain ⟨c, t, rfl, q⟩ := z; exact ⟨c, t, rfl, typeIs_str _ _ _, q⟩) fun _ _ e => e⟩
  obtain ⟨E', he, hu', X', I', h'⟩ := hh
  rw [str_new_tree]
  refine wpAny_bind (wpAny_pure ?_)
  refine wpAny_bind (wpAny_of_eq isSubtype_str_str ?_)
  refine wpAny_bind ?_
  unfold PySem.Builtin.Str.strOf
  refine wpAny_bind (wpAny_cRoomFor hu' ?_)
  refine wpAny_bind (m := callSpecial? (.ref x) (Str.ofString "__str__")) (special_fn X' I' hs (beq_iff_eq.mp hf) (wpAny_mono h' (fun r s' hr => ?_) fun _ _ y => he _ _ y))
  obtain ⟨c, t, rfl, q⟩ := hr
  exact wpAny_bind (wpAny_pure (wpAny_pure (wpAny_pure ⟨_, rfl, q⟩)))
/-- i op x, i an int, x an own instance with its own reflected method -/
theorem fu_binR {op : Operator} {i : Int} {t : Tok} {id : String} {g : Addr} (X : K.In s.heap) (I : InstAt s.heap x ox C od) (hc : selfFirst K C = true) (S : Slot "int" (PySem.dunder op.info.2) id)
    (h1 : findIn K (.type "int") (PySem.dunder op.info.2) = some (some (.builtin id))) (h2 : findIn K (.type "int") (dunderR op.info.2) = some (some (.builtin id'))) (hq : isSeqSlot (some (.builtin id)) = false)
    (hd : ∀ Q' : Value → Shared → Prop, Q' .notImplemented s → wpAny (model prog w) A (call (.builtin id) [.int i t, .ref x]) Q' E s)
    (hs : findIn K (.ref C) (PySem.dunder op.info.2) = some (some (.ref g))) (hr : findIn K (.ref C) (dunderR op.info.2) = some (some (.ref f))) (hf : isFn K (.ref f) = true) (hsub : subIn K (.ref C) (.type "int") = some false)
    (h : wpAny (model prog w) A (call (.ref f) [.ref x, .int i t]) (CmpBack Q) E s) : wpAny (model prog w) A (binaryOp op (.int i t) (.ref x)) Q E s := by
  obtain ⟨cd, rest, hcd, hm⟩ := ksp_first hc
  rcases hi : op.info with ⟨sym, nm'⟩
  rw [hi] at hs hr h1 h2 S
  dsimp only at hs hr h1 h2 S
  have one := ksp_try X I hr hf h
  obtain ⟨hh, gg, d, tt, os⟩ := s
  have L1 : Looks (model prog w) hh (typeOf (.ref x)) (.ref C) := I.type
  have L3 : Looks (model prog w) hh (fillsNumberSlot (.ref C) nm') true := fills_K X hcd hm hs
  have L4 : Looks (model prog w) hh (fillsNumberSlot (.type "int") nm') true := by
    have z : Looks (model prog w) hh (fillsNumberSlot (.type "int") nm') (((some (Value.builtin id)).isSome && !isSeqSlot (some (.builtin id))) || ((some (Value.builtin id')).isSome && !isSeqSlot (some (.builtin id')))) := ksp_fillsT X h1 h2
    rw [hq] at z
    exact z
  have L5 : Looks (model prog w) hh (isSubtype (.ref C) (.type "int")) false := looks_subIn X hsub
  have L7 : Looks (model prog w) hh (numberSlotInPython (.type "int") nm') false := Looks.of_pure rfl
  have hne : (Value.type "int" == Value.ref C) = false := Bool.eq_false_iff.mpr fun q => by cases beq_iff_eq.mp q
  simp only [binaryOp, hi]
  refine wpAny_holding (wpAny_bind ?_)
  unfold binaryOp1
  refine wpAny_bind (wpAny_typeOf (typeIs_int _ i t) (wpAny_bind (L1.at (wpAny_bind (L4.at ?_)))))
  simp only [hne, Bool.false_eq_true, if_false]
  ksp_lk
  refine wpAny_tryMethod_declines (typeIs_int _ i t) S (hd _ ⟨rfl, ?_⟩)
  ksp_lk
  refine wpAny_mono one (fun r s' hr' => ?_) fun _ _ e => e
  obtain ⟨v, rfl, hq⟩ := hr'
  ksp_lk
  exact hq
theorem fu_dI_add {i : Int} {t : Tok} (hx : s.heap.get? x = some (instObj C dx)) (h : Q .notImplemented s) : wpAny (model prog w) A (call (.builtin "int.__add__") [.int i t, .ref x]) Q E s := by
  refine GQ.call_here PySem.F.slot_int_add (typeIs_int s i t) PySem.F.entry_int_add (PySem.F.args_int_add_2 _ _) ?_
  obtain ⟨hp, g, d, tk, os⟩ := s
  wp_walk using wpAny_loadPart' hx
  exact h
theorem fu_dI_sub {i : Int} {t : Tok} (hx : s.heap.get? x = some (instObj C dx)) (h : Q .notImplemented s) : wpAny (model prog w) A (call (.builtin "int.__sub__") [.int i t, .ref x]) Q E s := by
  refine GQ.call_here PySem.F.slot_int_sub (typeIs_int s i t) PySem.F.entry_int_sub (PySem.F.args_int_sub_2 _ _) ?_
  obtain ⟨hp, g, d, tk, os⟩ := s
  wp_walk using wpAny_loadPart' hx
  exact h
theorem fu_dI_mul {i : Int} {t : Tok} (hx : s.heap.get? x = some (instObj C dx)) (h : Q .notImplemented s) : wpAny (model prog w) A (call (.builtin "int.__mul__") [.int i t, .ref x]) Q E s := by
  refine GQ.call_here PySem.F.slot_int_mul (typeIs_int s i t) PySem.F.entry_int_mul (PySem.F.args_int_mul_2 _ _) ?_
  obtain ⟨hp, g, d, tk, os⟩ := s
  wp_walk using wpAny_loadPart' hx
  exact h
theorem fu_dI_lt {i : Int} {t : Tok} (hx : s.heap.get? x = some (instObj C dx)) (h : Q .notImplemented s) : wpAny (model prog w) A (call (.builtin "int.__lt__") [.int i t, .ref x]) Q E s := by
  refine GQ.call_here PySem.F.slot_int_lt (typeIs_int s i t) PySem.F.entry_int_lt (PySem.F.args_int_lt_2 _ _) ?_
  obtain ⟨hp, g, d, tk, os⟩ := s
  wp_walk using wpAny_loadPart' hx
  exact h
theorem fu_dI_le {i : Int} {t : Tok} (hx : s.heap.get? x = some (instObj C dx)) (h : Q .notImplemented s) : wpAny (model prog w) A (call (.builtin "int.__le__") [.int i t, .ref x]) Q E s := by
  refine GQ.call_here PySem.F.slot_int_le (typeIs_int s i t) PySem.F.entry_int_le (PySem.F.args_int_le_2 _ _) ?_
  obtain ⟨hp, g, d, tk, os⟩ := s
  wp_walk using wpAny_loadPart' hx
  exact h
theorem fu_dI_gt {i : Int} {t : Tok} (hx : s.heap.get? x = some (instObj C dx)) (h : Q .notImplemented s) : wpAny (model prog w) A (call (.builtin "int.__gt__") [.int i t, .ref x]) Q E s := by
  refine GQ.call_here PySem.F.slot_int_gt (typeIs_int s i t) PySem.F.entry_int_gt (PySem.F.args_int_gt_2 _ _) ?_
  obtain ⟨hp, g, d, tk, os⟩ := s
  wp_walk using wpAny_loadPart' hx
  exact h
theorem fu_dI_ge {i : Int} {t : Tok} (hx : s.heap.get? x = some (instObj C dx)) (h : Q .notImplemented s) : wpAny (model prog w) A (call (.builtin "int.__ge__") [.int i t, .ref x]) Q E s := by
  refine GQ.call_here PySem.F.slot_int_ge (typeIs_int s i t) PySem.F.entry_int_ge (PySem.F.args_int_ge_2 _ _) ?_
  obtain ⟨hp, g, d, tk, os⟩ := s
  wp_walk using wpAny_loadPart' hx
  exact h
theorem fu_dI_ne {i : Int} {t : Tok} (hx : s.heap.get? x = some (instObj C dx)) (h : Q .notImplemented s) : wpAny (model prog w) A (call (.builtin "int.__ne__") [.int i t, .ref x]) Q E s := by
  refine GQ.call_here PySem.F.slot_int_ne (typeIs_int s i t) PySem.F.entry_int_ne (PySem.F.args_int_ne_2 _ _) ?_
  obtain ⟨hp, g, d, tk, os⟩ := s
  wp_walk using wpAny_loadPart' hx
  exact h
/-- x.__ne__(b) by object's own, x's __eq__ answers a truth value -/
theorem fu_neTry {b : Value} (hu : A.in1.units < cLine) (X : K.In s.heap) (I : InstAt s.heap x ox C od) (hm : mroIn K C (.type "object") = some true)
    (hne : findIn K (.ref C) "__ne__" = some (some (.builtin "object.__ne__"))) (hs : findIn K (.ref C) "__eq__" = some (some (.ref f))) (hf : isFn K (.ref f) = true)
    (h : wpAny (model prog w) A.in1 (call (.ref f) [.ref x, b]) (fun v s' => ∃ c, v = .bool c ∧ Q (.bool (!c)) s') E s) : wpAny (model prog w) A (tryCompare (.ref x) "__ne__" b) (fun r s' => ∃ v, r = some v ∧ Q v s') E s := by
  unfold tryCompare
  have sub : Looks (model prog w) s.heap (isInstance (.ref x) (.type "object")) true := I.type.andThen (looks_mroIn X hm)
  have core : wpAny (model prog w) A (call (.builtin "object.__ne__") [.ref x, b]) (fun v s' => ∃ c, v = .bool c ∧ Q v s') E s := by
    refine wpAny_call (codeAny_call_builtin fu_nePlain PySem.F.cmpEntry_ne (@check_slot (model prog w) _ _ s "object.__ne__" "object" "__ne__" (.ref x) [b] [] _ PySem.F.cmpKind_ne PySem.F.cmpSplit_ne sub (PySem.F.cmpArgs_ne _ _) ?_))
    unfold Builtin.«object.__ne__»
    refine wpAny_bind (wpAny_of_eq (a := ((Value.ref x : Value), [b])) (by first | rfl | (simp only [slotArgs]; rfl)) ?_)
    refine wpAny_bind (wpAny_cRoomFor hu (wpAny_bind (ifBound_K X I hs hf (wpAny_mono h (fun v s' z => ?_) fun _ _ e => e))))
    obtain ⟨c, rfl, q⟩ := z
    show wpAny _ _ (truthy (.bool c) >>= fun r => ret (.bool (!r))) _ _ _
    exact wpAny_bind (wpAny_truthy_bool (wpAny_pure ⟨_, rfl, q⟩))
  refine wpAny_bind ?_
  simp only [callSpecialIfBound?, bindSpecialIfBound?]
  refine wpAny_holding (wpAny_bind (wpAny_bind (wpAny_bind (I.type.here ((looks_findIn X hne).here ?_)))))
  simp only [fu_neBind]
  refine wpAny_bind (wpAny_askSetting (wpAny_ite ?_))
  have fin : wpAny (model prog w) A (call (.builtin "object.__ne__") ([.ref x] ++ [b]) >>= fun v => pure (some v)) (fun r s₁ => wpAny (model prog w) A (match r with | some .notImplemented => pure none | none => pure none | some v => pure (some v)) (fun r s' => ∃ v, r = some v ∧ Q v s') E s₁) E s := by
    refine wpAny_bind (wpAny_mono core (fun v s' z => ?_) fun _ _ e => e)
    obtain ⟨c, rfl, q⟩ := z
    exact wpAny_pure (wpAny_pure ⟨_, rfl, q⟩)
  split
  · exact wpAny_bind (wpAny_pure (wpAny_pure fin))
  · exact wpAny_tryCatch (wpAny_bind (wpAny_pure (wpAny_pure fin)))
/-- a rich comparison of a built-in's value with an own instance, by what the instance's try answers -/
theorem fu_rightG {op : CmpOp} {a : Value} {T i : String} (hu : A.units < cLine) (X : K.In s.heap) (I : InstAt s.heap x ox C od) (ha : s.TypeIs a T) (S : Slot T (cmpInfo op).2.1 i) (hm : mroIn K C (.type T) = some false)
    (hc : ∀ Q' : Value → Shared → Prop, Q' .notImplemented s → wpAny (model prog w) A (call (.builtin i) [a, .ref x]) Q' E s)
    (one : wpAny (model prog w) A (tryCompare (.ref x) (cmpInfo op).2.2 a) (fun r s' => ∃ v, r = some v ∧ Q v s') E s) : wpAny (model prog w) A (richCompare op a (.ref x)) Q E s := by
  unfold richCompare
  simp only [ha.oneThing_none]
  refine wpAny_holding (wpAny_bind (wpAny_cRoomFor hu (wpAny_bind (wpAny_typeOf ha (wpAny_bind (I.type.here ?_))))))
  rw [if_pos (show (Value.type T != Value.ref C) = true from rfl)]
  refine wpAny_bind ((looks_mroIn X hm).here ?_)
  simp only [Bool.false_eq_true, if_false, Bool.not_false, if_true]
  refine wpAny_bind (m := tryCompare a _ (.ref x)) (wpAny_tryCompare_declines ha S (hc _ ⟨rfl, ?_⟩))
  refine wpAny_bind (wpAny_mono one (fun r s' z => ?_) fun _ _ e => e)
  obtain ⟨v, rfl, q⟩ := z
  exact wpAny_pure q
end
end PySem.W

/-! Own errors over any of the built-in ones: made, held as values, read, asked for their kinds; raised. -/
namespace Fu
open PySem L2 PySem.HandSPX
open PyProof.Rows hiding St
/-- what a built-in base says: its maker B (newId), the mro behind the own classes -/
structure BaseY (newId : String) (tail : List Value) : Prop where
  f : ∃ B initId bmB, ExcBaseFacts B newId initId bmB ∧ tail.contains (.type B) = true
  na : tail.contains (.type "AttributeError") = false
  nn : tail.contains (.type "NameError") = false
  pass : ∀ self : Value, refuseLoop self "__setattr__" tail = pure ()
  obj : tail.contains (.type "object") = true
abbrev tailV : List Value := [.type "ValueError", .type "Exception", .type "BaseException", .type "object"]
abbrev tailR : List Value := [.type "RuntimeError", .type "Exception", .type "BaseException", .type "object"]
abbrev tailO : List Value := [.type "OverflowError", .type "ArithmeticError", .type "Exception", .type "BaseException", .type "object"]
abbrev tailK : List Value := [.type "KeyError", .type "LookupError", .type "Exception", .type "BaseException", .type "object"]
abbrev tailL : List Value := [.type "LookupError", .type "Exception", .type "BaseException", .type "object"]
theorem baseV : BaseY "ValueError.__new__" tailV := ⟨⟨_, _, _, F.excBase_ValueError, by decide +kernel⟩, by decide +kernel, by decide +kernel, fun self => by kernel_rfl, by decide +kernel⟩
theorem baseR : BaseY "RuntimeError.__new__" tailR := ⟨⟨_, _, _, F.excBase_RuntimeError, by decide +kernel⟩, by decide +kernel, by decide +kernel, fun self => by kernel_rfl, by decide +kernel⟩
theorem baseO : BaseY "OverflowError.__new__" tailO := ⟨⟨_, _, _, F.excBase_OverflowError, by decide +kernel⟩, by decide +kernel, by decide +kernel, fun self => by kernel_rfl, by decide +kernel⟩
theorem baseK : BaseY "LookupError.__new__" tailK := ⟨⟨_, _, _, F.excBase_LookupError, by decide +kernel⟩, by decide +kernel, by decide +kernel, fun self => by kernel_rfl, by decide +kernel⟩
theorem baseL : BaseY "LookupError.__new__" tailL := ⟨⟨_, _, _, F.excBase_LookupError, by decide +kernel⟩, by decide +kernel, by decide +kernel, fun self => by kernel_rfl, by decide +kernel⟩
/-- own classes ahead of it -/
theorem own_has (X : String) (tail : List Value) : ∀ cs : List Addr, (cs.map Value.ref ++ tail).contains (.type X) = tail.contains (.type X)
  | [] => rfl
  | c :: cs => by
    rw [List.map_cons, List.cons_append, List.contains_cons, own_has X tail cs]
    rfl
theorem own_pass {tail : List Value} (self : Value) (h : refuseLoop self "__setattr__" tail = pure ()) : ∀ cs : List Addr, refuseLoop self "__setattr__" (cs.map Value.ref ++ tail) = pure ()
  | [] => h
  | c :: cs => by
    rw [List.map_cons, List.cons_append, refuseLoop_ref]
    exact own_pass self h cs
section
variable {prog : Program} {w : World} {A : Around} {E : Value → Shared → Prop} {R : Result → Shared → Prop} {h : Heap} {g : Array GenState} {d : Drawn} {t : Nat} {os : OsState}
variable {nm q : Str} {C N : Addr} {bs bm bmB : List Value} {hdct : Bool} {sn : List Str} {sub : List Value} {ab : Bool} {col : Option Bool} {dd : Option Addr} {k0 k1 k2 k3 k5 : Option Value} {B newId initId : String}
theorem check_newY {M : Model} (F : ExcBaseFacts B newId initId bmB) (hB : bm.contains (.type B) = true) {rest : List Value} {Q : Unit → Shared → Prop}
    (hC : h.get? C = some (excClassObj nm q C N bs bm hdct sn sub ab col dd k0 k1 k2 k3 k5 newId)) (hq : Q () ⟨h, g, d, t, os⟩) : wpAny M A (checkBuiltinCall newId ⟨.ref C :: rest, []⟩) Q E ⟨h, g, d, t, os⟩ := by
  have hcont : (Value.ref C :: bm).contains (.type B) = true := by rw [List.contains_cons, hB, Bool.or_true]
  have hstar := F.noStar
  simp only [checkBuiltinCall, F.newKind, F.newSplit, F.newRow]
  repeat (first | refine wpAny_loadPart_at hC ?_ | (refine wpAny_isSubtype_exc hC ?_; rw [hcont]) | refine wpAny_staticBase_exc hC ?_ | refine wpAny_madeBy_exc hC ?_ | simp only [bne_self_eq_false, Bool.false_eq_true, if_false] | wp_step)
  exact hq
theorem newY (F : ExcBaseFacts B newId initId bmB) (hB : bm.contains (.type B) = true) (hA : bm.contains (.type "AttributeError") = false) (hN : bm.contains (.type "NameError") = false) {rest : List Value}
    (hC : h.get? C = some (excClassObj nm q C N bs bm hdct sn sub ab col dd k0 k1 k2 k3 k5 newId))
    (hq : R (.ok (.ret (.ref (h.objs.size + 1)))) ⟨(h.push { cls := .type "tuple", data := .seq rest.toArray }).push
      { cls := .ref C, data := .fields #[.ref h.objs.size, .none, .none, .none, .bool false, .none] }, g, d, t, os⟩) (hrest : rest.length ≤ sizeLine) :
    codeAny (model prog w) A (.builtin newId ⟨.ref C :: rest, []⟩) R ⟨h, g, d, t, os⟩ := by
  have hends := F.ends
  have hcB : (Value.ref C :: bm).contains (.type B) = true := by rw [List.contains_cons, hB, Bool.or_true]
  have hcA : (Value.ref C :: bm).contains (.type "AttributeError") = false := by rw [List.contains_cons, hA]; rfl
  have hcN : (Value.ref C :: bm).contains (.type "NameError") = false := by rw [List.contains_cons, hN]; rfl
  refine codeAny_builtinAt F.entry ?_
  unfold Builtin.«BaseException.__new__»
  refine PySem.wpAt_bind ?_
  show PySem.wpAt _ _ _ (stack >>= _) _ _ _
  refine PySem.wpAt_bind (PySem.wpAt_stack fun p below => PySem.wpAt_of_wpAny ?_)
  wp_walk
  refine PySem.wpAt_of_wpAny ?_
  rw [F.owner]
  repeat (first | with_reducible refine wpAny_madeHere_exc F.canon hC ?_ | with_reducible refine wpAny_loadPart_at hC ?_ | (with_reducible refine wpAny_isSubtype_exc hC ?_; first | rw [hcB] | rw [hcA] | rw [hcN]) | wp_step)
  show R _ _
  rw [Heap.size_push]
  exact hq
theorem type_callY (F : ExcBaseFacts B newId initId bmB) (hB : bm.contains (.type B) = true) (hA : bm.contains (.type "AttributeError") = false) (hN : bm.contains (.type "NameError") = false) {rest : List Value} {fI : Addr} {Q : Fin → Shared → Prop}
    (hC : h.get? C = some (excClassObj nm q C N bs bm hdct sn sub ab col dd k0 k1 k2 k3 k5 newId))
    (hi : W.Looks (model prog w) h (typeLookup (.ref C) "__init__") (some (.ref fI))) (hb : ∀ self, W.Looks (model prog w) h (bindSpecial (.ref fI) self) (.ref fI, [self])) (hrest : rest.length ≤ sizeLine)
    (hq : codeAny (model prog w) A (.call (.ref fI) ⟨.ref (h.objs.size + 1) :: rest, []⟩)
      (fun r s' => match r with | .ok (.ret v) => v = .none ∧ Q (.done (.ret (.ref (h.objs.size + 1)))) s' | .ok _ => False | .error e => E e s')
      ⟨(h.push (W.kdv_tup rest)).push (excO C h.objs.size), g, d, t, os⟩) :
    wpAny (model prog w) A (Builtin.«type.__call__» ⟨.ref C :: rest, []⟩) Q E ⟨h, g, d, t, os⟩ := by
  repeat (first | with_reducible refine wpAny_loadPart_at hC ?_ | with_reducible refine wpAny_madeBy_exc hC ?_ | wp_step)
  refine codeAny_call_builtin_code (Code.quiet_builtin _ F.quiet) (check_newY F hB hC ?_)
  refine newY F hB hA hN hC ?_ hrest
  show wpAny _ _ _ _ _ _
  have k : ∀ b o, h.get? b = some o → ((h.push (W.kdv_tup rest)).push (excO C h.objs.size)).get? b = some o := fun b o e => Heap.get?_push_of_some _ (Heap.get?_push_of_some _ e)
  have hC₁ := k _ _ hC
  have hget : ((h.push (W.kdv_tup rest)).push (excO C h.objs.size)).get? (h.objs.size + 1) = some (excO C h.objs.size) := by heap_get
  have hcC : (Value.ref C :: bm).contains (.ref C) = true := by simp
  have i1 := hi.keeps k
  have b1 := (hb (.ref (h.objs.size + 1))).keeps k
  unfold isInstance
  repeat (first | with_reducible refine wpAny_loadPart_at hget ?_ | (with_reducible refine wpAny_isSubtype_exc hC₁ ?_; rw [hcC]) | wp_step)
  show wpAny _ _ (typeLookup (.ref C) _) _ _ _
  refine i1.at ?_
  refine wpAny_holding (wpAny_bind (b1.at ?_))
  refine wpAny_bind (wpAny_call (codeAny_mono hq fun r s' z => ?_))
  rcases r with e | (v | _ | _ | _) <;> first | exact z | exact z.elim | skip
  obtain ⟨rfl, z⟩ := z
  first
    | exact wpAny_pure (wpAny_pure z)
    | (wp_walk; exact z)
theorem callY (F : ExcBaseFacts B newId initId bmB) (hB : bm.contains (.type B) = true) (hA : bm.contains (.type "AttributeError") = false) (hN : bm.contains (.type "NameError") = false) {rest : List Value} {fI : Addr}
    (hC : h.get? C = some (excClassObj nm q C N bs bm hdct sn sub ab col dd k0 k1 k2 k3 k5 newId))
    (hi : W.Looks (model prog w) h (typeLookup (.ref C) "__init__") (some (.ref fI))) (hb : ∀ self, W.Looks (model prog w) h (bindSpecial (.ref fI) self) (.ref fI, [self])) (hrest : rest.length ≤ sizeLine)
    (hq : codeAny (model prog w) (A.under (.builtin "type.__call__" ⟨.ref C :: rest, []⟩)) (.call (.ref fI) ⟨.ref (h.objs.size + 1) :: rest, []⟩) (W.InitBack (h.objs.size + 1) R)
      ⟨(h.push (W.kdv_tup rest)).push (excO C h.objs.size), g, d, t, os⟩) :
    codeAny (model prog w) A (.call (.ref C) ⟨rest, []⟩) R ⟨h, g, d, t, os⟩ := by
  have f1 := tc_lookup
  have f2 := tc_bind (.ref C)
  have hTy : (⟨h, g, d, t, os⟩ : Shared).TypeIs (.ref C) "type" := ⟨_, hC, rfl⟩
  refine codeAny_of_tree ?_
  show wpAny _ _ (callAny (.ref C) _) _ _ _
  repeat (any_goals (first | assumption | with_reducible refine wpAny_loadPart_at hC ?_ | wp_step))
  refine ⟨rfl, ?_⟩
  refine codeAny_call_builtin_at (Code.quiet_builtin _ (by decide +kernel)) entry_typeCall (wpAny_check_type_call_sub hC (type_callY F hB hA hN hC hi hb hrest ?_))
  refine codeAny_mono hq fun r s' z => ?_
  rcases r with e | (v | _ | _ | _) <;> exact z
end
section
open Builtin Builtin.ObjectAttr
variable {prog : Program} {w : World} {A : Around} {E : Value → Shared → Prop} {R : Result → Shared → Prop} {hp : Heap} {g : Array GenState} {d : Drawn} {t : Nat} {os : OsState}
/-- the first field of an error -/
theorem osaY {K : W.Frag} {name : Str} {tk : Tok} {v : Value} {x C : Addr} {fv : Array Value} {cd : ClassData} {cs : List Addr} {tail : List Value}
    (X : K.In hp) (hx : hp.get? x = some { cls := .ref C, data := .fields fv }) (hcd : W.clsIn K C = some cd) (hm : cd.mro = .ref C :: (cs.map Value.ref ++ tail)) (hps : ∀ self : Value, refuseLoop self "__setattr__" tail = pure ()) (hob0 : tail.contains (.type "object") = true)
    (hh : cd.hasDict = true) (ha : W.findIn K (.ref C) name = some none)
    (hq : ∀ h' tk' dx, (∀ b o, b ≠ x → hp.get? b = some o → h'.get? b = some o) → hp.objs.size ≤ dx → dx ≠ x → h'.get? x = some { cls := .ref C, dict := some dx, data := .fields fv } →
      h'.Ns1 dx (fun y => if y = name then some v else none) → R (.ok (.ret .none)) ⟨h', g, d, tk', os⟩) :
    codeAny (model prog w) A (.call (.builtin "object.__setattr__") ⟨[.ref x, .str name tk, v], []⟩) R ⟨hp, g, d, t, os⟩ := by
  have I : W.InstAt hp x { cls := .ref C, data := .fields fv } C none := ⟨hx, rfl, rfl, trivial⟩
  have SF := F.store_object
  have ne : cd.mro.isEmpty = false := by rw [hm]; rfl
  have hob : cd.mro.contains (.type "object") = true := by
    rw [hm, List.contains_cons, own_has, hob0, Bool.or_true]
  have hxs : x ≠ hp.objs.size := Nat.ne_of_lt (Heap.lt_size hx)
  have sub : W.Looks (model prog w) hp (isInstance (.ref x) (.type "object")) true := I.type.andThen (W.looks_mroIn X (by unfold W.mroIn; rw [hcd, Option.bind_some, if_neg (by rw [ne]; decide), hob]))
  refine codeAny_call_builtin SF.slot.plain SF.entry (@W.check_slot (model prog w) _ _ ⟨hp, g, d, t, os⟩ "object.__setattr__" "object" "__setattr__" (.ref x) [.str name tk, v] [] _ SF.kind SF.split sub (SF.args (.ref x) (.str name tk) v) ?_)
  have hmr : W.Looks (model prog w) hp (mroOf (.ref C)) cd.mro := (W.looks_clsIn X hcd).andThen .now
  have L3 : W.Looks (model prog w) hp (storeTaker? none) none := .now
  have hcls : W.Looks (model prog w) hp (classData C) cd := W.looks_clsIn X hcd
  rw [W.osa_eq, refuse_eq]
  refine wpAny_bind (wpAny_bind (I.type.at (wpAny_bind (hmr.at ?_))))
  rw [hm, refuseLoop_ref, own_pass _ (hps _)]
  refine wpAny_pure (wpAny_bind (I.type.at (wpAny_bind ((W.looks_findIn X ha).at (wpAny_bind (L3.at ?_))))))
  show wpAny _ _ (storeInOwnDict (.ref x) (.ref C) (.str name tk) name v false) _ _ _
  clear hm ne hob hmr
  obtain ⟨nm, bs, mro, ns, qn, hd, sn, sb, ab, col, del⟩ := cd
  dsimp only at hh
  subst hh
  unfold storeInOwnDict ownDictForStores
  repeat (first | with_reducible refine HandSPX.store_in_new ?_ ?_ | with_reducible refine wpAny_loadPart_at hx ?_ | with_reducible refine hcls.at ?_ | wp_step)
  · exact ⟨_, #[], _, (Heap.get?_update_ne _ _ _ _ hxs.symm).trans (Heap.get?_push_at rfl rfl), rfl, fun e he => absurd he (by simp), fun _ => rfl⟩
  · intro h' tk' hn' hs
    have hx₁ : (hp.push { cls := .type "dict", data := .dict #[] }).get? x = some { cls := .ref C, data := .fields fv } := Heap.get?_push_of_some _ hx
    refine hq h' tk' hp.objs.size (fun b o hb ho => ?_) (Nat.le_refl _) hxs.symm ?_ hn'
    · exact (hs.2 b (Nat.ne_of_lt (Heap.lt_size ho))).trans ((Heap.get?_update_ne _ _ _ _ hb).trans (Heap.get?_push_of_some _ ho))
    · exact (hs.2 x hxs).trans (Heap.get?_update_self _ hx₁ rfl)
end
/-- what the written part says of an own error class -/
structure OexY (K : PySem.W.Frag) (C : Addr) : Prop where
  cls : ∃ newId tail, BaseY newId tail ∧ ∃ nm q N bs cs sn sub ab col dd k0 k1 k2 k3 k5, K.lookup C = some (excClassObj nm q C N bs (List.map Value.ref cs ++ tail) true sn sub ab col dd k0 k1 k2 k3 k5 newId)
  sa : PySem.W.findIn K (.ref C) "__setattr__" = some (some (.builtin "object.__setattr__"))
  exC : PySem.W.subIn K (.ref C) (.type "BaseException") = some true
  tyC : PySem.W.typeIn K (.ref C) = some (.type "type")
  kC : PySem.W.keepIn K (.ref C) = true
section
variable {X : Cx} {pins : List (Addr × Obj)} {σ : St} {H : Hp} {s : Shared} {a C dx : Addr} {f : Str} {y : V} {u : Value} {fs : List (Str × V)} {Q : Unit → Shared → Prop} {E : Value → Shared → Prop} {A : Around}
/-- self.f = y, the first one -/
theorem ostY (T : OexY X.K C) (I : Inv X pins σ H s) (e : H a = some (exo a C none)) (hno : PySem.W.findIn X.K (.ref C) f = some none) (ry : RelV y u)
    (h : ∀ dx s', H dx = none → dx ≠ a → Inv X pins σ (upd (upd H dx (exd dx [(f, y)])) a (exo a C (some dx))) s' → Q () s') : wpAny (model X.prog X.w) A (setAttr (.ref a) f u) Q E s := by
  obtain ⟨newId, tail, BY, nm, q, N, bs, cs, sn, sub, ab, col, dd, k0, k1, k2, k3, k5, hC⟩ := T.cls
  have hcl : PySem.W.clsIn X.K C = some { name := nm, bases := bs, mro := .ref C :: (List.map Value.ref cs ++ tail), ns := N, qualname := q, hasDict := true, slotNames := sn, subclasses := sub, abstract := ab, collection := col, hasDel := false } := by unfold PySem.W.clsIn; rw [hC] <;> rfl
  obtain ⟨t1, ho⟩ := exo_at I.hok e
  obtain ⟨hp, g, d, t, os⟩ := s
  refine PySem.W.set_plain I.kIn (ox := { cls := .ref C, dict := none, data := .fields #[.ref t1, .none, .none, .none, .bool false, .none] }) (od := none) ⟨ho, rfl, rfl, trivial⟩ T.sa ?_
  refine osaY I.kIn ho hcl rfl BY.pass BY.obj rfl hno (fun h' tk' dx k dn dne hx hn => ?_)
  have hnd : H dx = none := I.hok.fresh dn
  have nd : ∀ {b : Addr} {o : Obj}, hp.get? b = some o → b ≠ dx := fun {b o} q => Nat.ne_of_lt (Nat.lt_of_lt_of_le (Heap.lt_size q) dn)
  have na : ∀ {b : Addr}, H b = none → b ≠ a := fun {b} n z => by
    rw [z, e] at n
    cases n
  have Un1 : Un X.fs [] H (upd (upd H dx (exd dx [(f, y)])) a (exo a C (some dx))) hp h' := {
    keep := fun b o q n _ _ => k b o (na n) q
    slot := fun b o q n _ _ => ⟨o.slots, k b o (na n) q⟩
    free := fun b o q n _ => by rw [upd_ne (na n), upd_ne (nd q)]; exact n
    there := fun b o q _ => by
      by_cases hb : b = a
      · exact ⟨_, by rw [hb]; exact hx⟩
      · exact ⟨o, k b o hb q⟩
    tups := fun b xs q => by rw [upd_ne (at_ne e q exo_tup), upd_ne (ne_of_none q hnd)]; exact q
    frzs := fun b o v q => by rw [upd_ne (at_ne e q exo_frz), upd_ne (ne_of_none q hnd)]; exact q
    tbls := fun b ps q => ⟨#[], by rw [upd_ne (at_ne e q exo_tbl), upd_ne (ne_of_none q hnd), q]; simp⟩ }
  refine h dx _ hnd dne (I.un (t' := tk') Un1 fun b o q => ?_)
  by_cases hb : b = a
  · subst hb
    rw [upd_same] at q
    cases q
    exact exo_ok hx
  · rw [upd_ne hb] at q
    by_cases hd : b = dx
    · subst hd
      rw [upd_same] at q
      cases q
      exact exd_ok hn (relO_put (fs := []) ry fun g => True.intro)
    · rw [upd_ne hd] at q
      exact (I.hok b o q).stay (fun c v hc z => k c v (by
          rcases hc with hc | hc
          · rw [hc]
            exact hb
          · exact at_ne e hc exo_own) z)
        (fun c hc => by rw [upd_ne (at_ne e hc exo_own), upd_ne (ne_of_none hc hnd)]; exact hc) (fun c xs hc => by rw [upd_ne (at_ne e hc exo_tup), upd_ne (ne_of_none hc hnd)]; exact hc)
end
/-- self.f = e on a new error -/
def tOsY (K : PySem.W.Frag) (f : Str) (to te : TE) : TS := fun D σ H => te σ H fun y H1 => to σ H1 fun x H2 => ∃ a C : Addr, x = .ref a ∧ OexY K C ∧ PySem.W.findIn K (.ref C) f = some none ∧
  H2 a = some (exo a C none) ∧ ∀ dx, H2 dx = none → dx ≠ a → D.nx σ (upd (upd H2 dx (exd dx [(f, y)])) a (exo a C (some dx)))
theorem ps_osY {X : Cx} {o e : Expr} {to te : TE} {f : Str} {p' pos : Pos} (ho : PE X o to) (he : PE X e te) (hs : swapsWith e (some (.Attribute o f p')) pos.line X.env = pure false := by rfl) : PS X (.Assign [.Attribute o f p'] e pos) (tOsY X.K f to te) := by
  refine ⟨fun pins s σ H D I h => ?_⟩
  refine plainObj_wpAny_Assign_Attribute (thn (he.run pins s σ H _ I h) fun v s1 ⟨y, H1, I1, r1, q1⟩ => thn (ho.run pins s1 σ H1 _ I1 q1) fun u s2 ⟨x, H2, I2, r2, a, C, ex, T, hno, ea, q⟩ => ?_) hs
  subst ex
  obtain rfl : u = Value.ref a := r2
  exact ostY T I2 ea hno r1 fun dx s' n ne J => ⟨σ, _, J, q dx n ne⟩
/-- what the written part says of such a class with one field -/
structure ErrY (K : PySem.W.Frag) (mg : Str → Option Value) (x f : Str) (C fI : Addr) : Prop where
  oex : OexY K C
  gC : mg x = some (.ref C)
  iC : PySem.W.findIn K (.ref C) "__init__" = some (some (.ref fI))
  tI : PySem.W.typeIn K (.ref fI) = some (.type "function")
  noF : PySem.W.findIn K (.ref C) f = some none
  xf : XfC K C
/-- the __init__ itself -/
theorem ok_yinit {P : Program} {w : World} {K : PySem.W.Frag} {mg : Str → Option Value} {base : Heap} {C fI : Addr} {x f qual : Str} {fd : FuncData} {st : Stmt} {p1 p2 p3 p4 : Pos} (F : Fun K "__init__" qual st fI fd) (T : ErrY K mg x f C fI)
    (hb : defBody st = [.Assign [.Attribute (.Name "self" p1) f p2] (.Name f p3) p4]) (sc : FnScope ["self", f] ["self", f] (defScope st))
    (hsw : ∀ (env : Env), swapsWith (.Name f p3) (some (.Attribute (.Name "self" p1) f p2)) p4.line env = pure false) (v0 : Vis (defScope st) "self") (v1 : Vis (defScope st) f) (d1 : (f == ("__debug__" : Str)) = false) (d2 : (f == ("__classdict__" : Str)) = false) :
    FnOk P w K mg base CX0 1 fI fd ["self", f] (spX C f) := by
  refine F.ok sc (fun vs H Q E h => ?_) (fun cdv A outer s H vs Q E hr h => ?_)
  · obtain ⟨a, v, rfl, _⟩ := h
    rfl
  · obtain ⟨a, v, rfl, ha, k⟩ := h
    rw [hb]
    refine ⟨_, pss_one (ps_osY (pe_var (i := 0) rfl v0) (pe_var (i := 1) rfl v1 d1 d2) (hsw _)), ?_⟩
    exact ⟨_, rfl, _, rfl, a, C, rfl, T.oex, T.noF, ha, fun dx n ne => k dx n ne⟩
section
variable {X : Cx} {C fI : Addr} {x f : Str} {e : Expr} {es : List Expr} {ta : TA} {p pos : Pos} {k : Nat} {fd : FuncData}
/-- the call of such a class: __init__ runs with the new error at a -/
theorem callsY {pins : List (Addr × Obj)} {σ : St} {H1 : Hp} {s1 : Shared} {v : V} {u : Value} {Q : Value → Shared → Prop} (T : ErrY X.K X.mg x f C fI) (F1 : FnOk X.prog X.w X.K X.mg X.base CX0 k fI fd ["self", f] (spX C f)) (hr : Room (k + 1) X.A)
    (hb : Binds X.K fd ["self", f] []) (I1 : Inv X pins σ H1 s1) (r1 : RelV v u)
    (hq : ∀ (a : Addr) (s2 s3 : Shared), s1.heap.objs.size ≤ a → (∀ b o, s1.heap.get? b = some o → s2.heap.get? b = some o) → s2.os = s1.os → Inv X pins σ (upd H1 a (exo a C none)) s2 →
      CE X.stack X.prog X.w (upd H1 a (exo a C none)) s2 (fun w H2 => w = .non ∧ ∃ dx, H1 dx = none ∧ dx ≠ a ∧ H2 = upd (upd (upd H1 a (exo a C none)) dx (exd dx [(f, v)])) a (exo a C (some dx))) .none s3 → Q (.ref a) s3) :
    wpAny (model X.prog X.w) X.A (call (.ref C) [u]) Q X.xe s1 := by
  obtain ⟨newId, tail, ⟨⟨B, initId, bmB, FB, hB0⟩, hA0, hN0, _, _⟩, nm, q, N, bs, cs, sn, sub, ab, col, dd, k0, k1, k2, k3, k5, hC⟩ := T.oex.cls
  obtain ⟨hp, g, dr, tk, os⟩ := s1
  have hsz : hp.objs.size ≤ hp.objs.size + 1 := Nat.le_succ _
  have hn : H1 (hp.objs.size + 1) = none := I1.hok.fresh hsz
  have kk : ∀ b o, hp.get? b = some o → ((hp.push (PySem.W.kdv_tup [u])).push (excO C hp.objs.size)).get? b = some o := fun b o e => Heap.get?_push_of_some _ (Heap.get?_push_of_some _ e)
  have hget : ((hp.push (PySem.W.kdv_tup [u])).push (excO C hp.objs.size)).get? (hp.objs.size + 1) = some (excO C hp.objs.size) := by heap_get
  have I2 : Inv X pins σ (upd H1 (hp.objs.size + 1) (exo (hp.objs.size + 1) C none)) ⟨(hp.push (PySem.W.kdv_tup [u])).push (excO C hp.objs.size), g, dr, tk, os⟩ := I1.laid (t' := tk) kk hsz (exo_ok hget)
  have r2 : Vals [V.ref (hp.objs.size + 1), v] [Value.ref (hp.objs.size + 1), u] := .cons rfl (.cons r1 .nil)
  refine wpAny_call (callY FB (by rw [own_has]; exact hB0) (by rw [own_has]; exact hA0) (by rw [own_has]; exact hN0) (I1.kIn _ _ hC) (PySem.W.looks_findIn I1.kIn T.iC) (fun self => PySem.W.bind_fn I1.kIn self T.tI) (by show 1 ≤ sizeLine; rw [sizeLine_eq]; omega) ?_)
  refine codeAny_mono (F1.run _ X.stack _ _ ⟨[Value.ref (hp.objs.size + 1), u], []⟩ [Value.ref (hp.objs.size + 1), u] _
      (fun w H2 => w = .non ∧ ∃ dx, H1 dx = none ∧ dx ≠ hp.objs.size + 1 ∧ H2 = upd (upd (upd H1 (hp.objs.size + 1) (exo (hp.objs.size + 1) C none)) dx (exd dx [(f, v)])) (hp.objs.size + 1) (exo (hp.objs.size + 1) C (some dx)))
      (fun _ _ _ => False) (hr.make C [u] []) (I2.env0.make C [u] []) (hb _ [Value.ref (hp.objs.size + 1), u] I2.kIn rfl) r2 ⟨_, v, rfl, upd_same, fun dx hdx ne => ⟨rfl, dx, by rw [upd_ne ne] at hdx; exact hdx, ne, rfl⟩⟩) fun r s' hq' => ?_
  cases r with
  | error er => exact False.elim hq'
  | ok fl =>
    cases fl with
    | ret w =>
      have hw : w = .none := by
        obtain ⟨v', H2, _, _, _, _, rv, ev, _⟩ := hq'
        subst ev
        exact rv
      subst hw
      exact ⟨rfl, hq _ ⟨(hp.push (PySem.W.kdv_tup [u])).push (excO C hp.objs.size), g, dr, tk, os⟩ s' hsz kk rfl I2 hq'⟩
    | next => exact False.elim hq'
    | brk => exact False.elim hq'
    | cont => exact False.elim hq'
/-- E(e) as a value -/
def tMkY (C : Addr) (f : Str) (ta : TA) : TE := fun σ H Q => ta σ H fun vs H1 => ∃ v, vs = [v] ∧ ∀ a dx, H1 a = none → H1 dx = none → dx ≠ a → Q (.ref a) (upd (upd (upd H1 a (exo a C none)) dx (exd dx [(f, v)])) a (exo a C (some dx)))
theorem pe_mkY (T : ErrY X.K X.mg x f C fI) (F1 : FnOk X.prog X.w X.K X.mg X.base CX0 k fI fd ["self", f] (spX C f)) (hr : Room (k + 1) X.A) (hb : Binds X.K fd ["self", f] []) (ha : PA X (e :: es) ta) (hg : Gl X x := by rfl)
    (hdb : (x == ("__debug__" : Str)) = false := by decide) (hs : starEach (e :: es) X.env = (false, eval e X.env) :: starEach es X.env := by rfl) (hpl : (backTo pos (starEach es X.env)).any (·.1) = false := by rfl) :
    PE X (.Call (.Name x p) (e :: es) [] pos) (tMkY C f ta) := by
  refine ⟨fun pins s σ H Q I h => ?_⟩
  refine wpAny_Call_Name_kw (ld_glob I hg T.gC ?_ hdb)
  refine PySem.W.callWith_K (h₀ := X.base) I.ok.mod.kin T.oex.kC (thn (ha.run pos pins s σ H _ I h) fun us s1 ⟨vs, H1, I1, r1, v, ev, q⟩ => ⟨I1.kIn, ?_⟩) hs hpl
  subst ev
  obtain ⟨u, rfl, ru⟩ := vals1 r1
  refine callsY T F1 hr hb I1 ru fun a s2 s3 ha _ _ I2 c => ?_
  obtain ⟨v', H2, I3, rv, ev, dx, n, ne, e2⟩ := I2.after c
  subst e2
  exact ⟨.ref a, _, I3, rfl, q a dx (I1.hok.fresh ha) n ne⟩
/-- raise E(e) -/
theorem pmk_Y (T : ErrY X.K X.mg x f C fI) (F1 : FnOk X.prog X.w X.K X.mg X.base CX0 k fI fd ["self", f] (spX C f)) (hr : Room (k + 1) X.A) (hb : Binds X.K fd ["self", f] []) (ha : PA X (e :: es) ta) (hg : Gl X x := by rfl)
    (hdb : (x == ("__debug__" : Str)) = false := by decide) (hs : starEach (e :: es) X.env = (false, eval e X.env) :: starEach es X.env := by rfl) (hpl : (backTo pos (starEach es X.env)).any (·.1) = false := by rfl) :
    PMk X (.Call (.Name x p) (e :: es) [] pos) (tMkX C f ta) := by
  intro pins s σ H Q I h
  refine wpAny_Call_Name_kw (ld_glob I hg T.gC ?_ hdb)
  refine PySem.W.callWith_K (h₀ := X.base) I.ok.mod.kin T.oex.kC (thn (ha.run pos pins s σ H _ I h) fun us s1 ⟨vs, H1, I1, r1, v, ev, q⟩ => ⟨I1.kIn, ?_⟩) hs hpl
  subst ev
  obtain ⟨u, rfl, ru⟩ := vals1 r1
  refine callsY T F1 hr hb I1 ru fun a s2 s3 ha kk hos I2 c => ?_
  obtain ⟨v', H2, os2, bare2, un2, hok2, rv, ev, dx, n, ne, e2⟩ := c
  subst e2
  obtain ⟨hp, g, dr, tk, os⟩ := s1
  obtain ⟨hp2, g2, dr2, tk2, o2⟩ := s2
  obtain ⟨hp3, g3, dr3, tk3, o3⟩ := s3
  have z := mk_end (d1 := dr) (d2 := dr3) (t2 := tk3) (Q := Q) (raises_own T.oex.exC T.oex.tyC) I1 ha kk un2 hok2 (os2.trans hos) bare2 upd_same (by rw [upd_ne ne, upd_same]) n ?_
  · exact z
  · have hn : H1 a = none := I1.hok.fresh ha
    have eq : upd (del (upd (upd (upd H1 a (exo a C none)) dx (exd dx [(f, v)])) a (exo a C (some dx))) a) dx (.xd [(f, v)]) = upd H1 dx (.xd [(f, v)]) := by
      funext b
      by_cases hb : b = dx
      · subst hb
        rw [upd_same, upd_same]
      · rw [upd_ne hb, upd_ne hb]
        by_cases hba : b = a
        · subst hba
          rw [del_same]
          exact hn.symm
        · rw [del_ne hba, upd_ne hba, upd_ne hb, upd_ne hba]
    rw [eq]
    exact q dx n
theorem ps_raiseY {W : WX} {pos2 : Pos} (hc : X.calm = true) (T : ErrY X.K X.mg x f C fI) (F1 : FnOk X.prog X.w X.K X.mg X.base CX0 k fI fd ["self", f] (spX C f)) (hr : Room (k + 1) X.A) (hb : Binds X.K fd ["self", f] []) (tk : Takes X W) (ha : PA X (e :: es) ta)
    (hg : Gl X x := by rfl) (hdb : (x == ("__debug__" : Str)) = false := by decide) (hs : starEach (e :: es) X.env = (false, eval e X.env) :: starEach es X.env := by rfl) (hpl : (backTo pos (starEach es X.env)).any (·.1) = false := by rfl) :
    PS X (.Raise (some (.Call (.Name x p) (e :: es) [] pos)) none pos2) (tRaiseX C f W ta) := ps_raise hc tk (pmk_Y T F1 hr hb ha hg hdb hs hpl)
end
section
variable {X : Cx} {C : Addr} {x : Str} {p pos : Pos} {bmB : List Value} {B newId initId : String}
/-- E(), a class without own __init__ -/
theorem pe_mkY0 (F : ExcBaseFacts B newId initId bmB) (q : PySem.W.excIn X.K C bmB newId = true) (gC : X.mg x = some (.ref C)) (kC : PySem.W.keepIn X.K (.ref C) = true) (hg : Gl X x := by rfl) (hdb : (x == ("__debug__" : Str)) = false := by decide) :
    PE X (.Call (.Name x p) [] [] pos) (fun σ H Q => ∀ a, H a = none → Q (.ref a) (upd H a (exo a C none))) := by
  refine ⟨fun pins s σ H Q I h => ?_⟩
  refine wpAny_Call_Name_kw (ld_glob I hg gC ?_ hdb)
  refine PySem.W.callWith_K0 I.kIn kC ?_
  show wpAny _ _ (call (.ref C) []) _ _ _
  obtain ⟨bm, N, nm, qn, bs, hdct, sn, sub, ab, col, dd, k0, k1, k2, k3, k5, mN, hC, hN, hni, T⟩ := exc_obj I.kIn q
  refine wpAny_call_exc_subT F T hC hN hni (fun h' a hm => ?_) (by show 0 ≤ sizeLine; omega)
  have hn : H a = none := I.hok.gone hm.new
  obtain ⟨t, ht, _, _⟩ := hm.there
  exact ⟨.ref a, _, I.laidN hm.keeps hm.new hn (exo_ok ht), rfl, h a hn⟩
end
/-- the error at a in H: class C, dict d -/
def ErAt (H : Hp) (a C : Addr) (fs : List (Str × V)) : Prop := (H a = some (exo a C none) ∧ fs = []) ∨ ∃ dd, H a = some (exo a C (some dd)) ∧ H dd = some (exd dd fs)
theorem ErAt.inst {X : Cx} {pins : List (Addr × Obj)} {σ : St} {H : Hp} {s : Shared} {a C : Addr} {fs : List (Str × V)} (I : Inv X pins σ H s) (h : ErAt H a C fs) : ∃ oe od, PySem.W.InstAt s.heap a oe C od ∧ (∀ f v, fs.lookup f = some v → ∃ o u, od = some o ∧ PySem.W.lookIn f o = some (some u) ∧ RelV v u) := by
  rcases h with ⟨ha, rfl⟩ | ⟨dd, ha, hd⟩
  · obtain ⟨t1, ho⟩ := exo_at I.hok ha
    exact ⟨_, none, ⟨ho, rfl, rfl, trivial⟩, fun f v e => nomatch e⟩
  · obtain ⟨t1, ho⟩ := exo_at I.hok ha
    obtain ⟨mA, hns, hr⟩ := exd_at I.hok hd
    obtain ⟨od, hod, hl⟩ := lookIn_ns hns
    refine ⟨_, some od, ⟨ho, rfl, rfl, hod⟩, fun f v e => ?_⟩
    obtain ⟨u, hu, ru⟩ := RelO.some_of (v := v) (o := mA f) (by rw [← e]; exact hr f)
    exact ⟨od, u, rfl, by rw [hl, hu], ru⟩
/-- isinstance(e, c), e an error held as a value -/
def rIsY (K : PySem.W.Frag) : List V → Hp → VK → Prop := fun xs H Q => ∃ (a D : Addr) (fs : List (Str × V)) (c : V) (cv : Value) (b : Bool), xs = [.ref a, c] ∧ ErAt H a D fs ∧ ExcC K D ∧ ClsV c cv ∧ PySem.W.kitOne K (.ref D) cv = some b ∧ Q (.bl b) H
theorem call_isY {X : Cx} : CallR X (.builtin "isinstance") (rIsY X.K) := by
  intro pins s σ H xs us Q I r h
  obtain ⟨a, D, fs, c, cv, b, rfl, hE, T, hc, e, q⟩ := h
  obtain ⟨u, t, rfl, ru, rt⟩ := vals2 r
  obtain rfl : u = Value.ref a := ru
  have ec := hc.eq rt
  subst ec
  obtain ⟨oe, od, J, _⟩ := hE.inst I
  have hcl : (PySem.W.clsIn X.K D).isSome = true := by
    obtain ⟨cd, hc, _⟩ := PySem.W.any_some T.hd
    rw [hc]
    rfl
  exact PySem.W.kia_one (PySem.W.kitx_exc hcl T.hg T.hk T.hs T.ha T.hn T.ht T.hm) I.kIn J e (fun z => nomatch z) fun tk => ⟨.bl b, H, I.kept (t' := tk) fun _ _ z => z, rfl, q⟩
/-- e.f, e an error held as a value -/
def tYf (K : PySem.W.Frag) (f : Str) (te : TE) : TE := fun σ H Q => te σ H fun x H1 => ∃ (a C : Addr) (fs : List (Str × V)) (v : V), x = .ref a ∧ XfC K C ∧ PySem.W.findIn K (.ref C) f = some none ∧ ErAt H1 a C fs ∧ fs.lookup f = some v ∧ Q v H1
theorem pe_yf {X : Cx} {e : Expr} {te : TE} {pos : Pos} {f : Str} (he : PE X e te) (hb : attributeBase e f X.env (eval e X.env) = eval e X.env := by rfl) : PE X (.Attribute e f pos) (tYf X.K f te) := by
  refine ⟨fun pins s σ H Q I h => ?_⟩
  refine attr_of hb (thn (he.run pins s σ H _ I h) fun u s1 hh => ?_)
  obtain ⟨x, H1, I1, rx, a, C, fs, v, ex, T, hno, hE, l, q⟩ := hh
  subst ex
  obtain rfl : u = Value.ref a := rx
  obtain ⟨oe, od, J, hf⟩ := hE.inst I1
  obtain ⟨o, u, rfl, hl, ru⟩ := hf f v l
  exact HandSPX.exc_get I1.kIn J T.ga T.gg T.exC (PySem.W.findObj_own T.hdC hno rfl hl) (handed_of ru) ⟨v, H1, I1.tok _, ru, q⟩
end Fu

/-! Several clauses 'except x as n'. -/
namespace Fu
open PySem L2
open PyProof.Rows hiding St
/-- the ends of a clause's suite: the name goes -/
def goes (i : Nat) (D : Ends) : Ends := { nx := fun σ' H' => D.nx (σ'.set i none) H', rt := D.rt, bk := fun σ' H' => D.bk (σ'.set i none) H', ct := fun σ' H' => D.ct (σ'.set i none) H' }
/-- what the clauses wish of an error of the body, one after the other -/
def wManyAs (K : PySem.W.Frag) (i : Nat) (Wout : WX) (D : Ends) : List (Value × (Addr → Value → Option Addr → TS)) → WX
  | [] => Wout
  | (c, ts) :: r => fun cls d σ H => ∃ b, PySem.W.exmOne K cls c = some b ∧ (b = true → ∀ a, H a = none → ts a cls d (goes i D) (σ.set i (some (.ref a))) H) ∧ (b = false → wManyAs K i Wout D r cls d σ H)
inductive HdsAs (X : Cx) (n : Str) : List ExceptHandler → List (Value × (Addr → Value → Option Addr → TS)) → Prop
  | nil : HdsAs X n [] []
  | cons {x : Str} {c : Value} {ts : Addr → Value → Option Addr → TS} {b₀ : Stmt} {suite : List Stmt} {np pos' : Pos} {hds : List ExceptHandler} {l : List (Value × (Addr → Value → Option Addr → TS))} (hc : Names X x c)
      (hsu : ∀ (a : Addr) (oe : Obj) (cls : Value) (d : Option Addr) (pn : List (Addr × Obj)), Zc cls d oe → (∃ vs, oe.data = .fields vs) → PSs (X.suite a ((a, oe) :: pn)) (b₀ :: suite) (ts a cls d)) (r : HdsAs X n hds l) :
      HdsAs X n (.ExceptHandler (some (.Name x np)) (some n) (b₀ :: suite) pos' :: hds) ((c, ts) :: l)
section
variable {X : Cx} {n : Str} {i : Nat} {body : List Stmt} {h₀ : ExceptHandler} {hds : List ExceptHandler} {l : List (Value × (Addr → Value → Option Addr → TS))} {pos : Pos} {tb : WX → TS} {Wout : WX}
theorem ps_try_manyAs (hs : X.stack = X.env :: X.outer) (hf : X.env.frame = some X.env.locals) (hN : X.N.Nodup) (hi : X.N[i]? = some n) (hln : X.env.kindOf n = some .local) (tk : Takes X Wout)
    (hb : ∀ (W : WX) (pn : List (Addr × Obj)) (xe : Value → Shared → Prop), Takes (X.tr pn xe) W → PassesOwn (model X.prog X.w) X.A X.env xe → PSs (X.tr pn xe) body (tb W))
    (hh : HdsAs X n (h₀ :: hds) l) : PS X (.Try body (h₀ :: hds) [] [] pos) (fun D σ H => tb (wManyAs X.K i Wout D l) D σ H) := by
  refine ⟨fun pins s σ H D I h => ?_⟩
  have ok := I.ok
  have hfr : X.A.frames = some (X.env :: X.outer) := by rw [ok.frames, hs]
  have hloc : Loc X.env.scope n := .inl hln
  refine wpAny_Try_except ?_
  refine wpAny_mono ((hb (wManyAs X.K i Wout D l) (X.pn ++ pins) (fun e s₁ => wpAny (model X.prog X.w) X.A (noteFrame e X.env) (fun _ s₂ => wpAny (model X.prog X.w) X.A (setFlight e none) (fun _ s₃ =>
    wpAny (model X.prog X.w) X.A (handleBy e X.env (h₀ :: hds)) (SP X pins D) X.xe s₃) X.xe s₂) X.xe s₁) (fun u s' xx => ?_) PassesOwn.looking).run [] s σ H D (I.toTry _) h) (fun f s1 hsp => ?_) (fun e s1 he => he)
  · obtain ⟨a, B, sI, pins', σ', H', cls, d, rfl, J', nb, up, sky, na, os, ag, w⟩ := xx
    have J : Inv X pins σ' H' sI := J'.ofTry ok
    have sky' : Sky B (X.env :: X.outer) a (Zc cls d) X.env.locals s'.heap := by rw [← hs]; exact sky
    show wpAny (model X.prog X.w) X.A (noteFrame (.ref a) X.env) _ _ _
    refine Sky.land Zc.steady hfr hf sky' fun h3 fl3 up3 => ?_
    have J3 : Inv X pins σ' H' { s' with heap := h3 } := J.landed nb fl3.1 (up.trans up3) os ag
    obtain ⟨oe3, vs3, he3, hz3, hd3⟩ := fl3.there
    have nfr : a ∉ frs (X.env :: X.outer) := fun hm => by
      obtain ⟨_, o', e', hnf⟩ := fl3.2.2.1.mem hm
      rw [he3] at e'
      cases e'
      exact hnf _ hd3
    have nL : a ≠ X.env.locals := fun z => nfr (List.mem_filterMap.mpr ⟨X.env, List.mem_cons_self, by rw [hf, z]⟩)
    have nF : a ∉ X.fs := fun hm => by
      obtain ⟨e, he, q⟩ := List.mem_filterMap.mp hm
      exact nfr (List.mem_filterMap.mpr ⟨e, List.mem_cons_of_mem _ he, q⟩)
    have S3 := J3.suite he3 hd3 na nL nF
    have go : ∀ {hds' : List ExceptHandler} {l' : List (Value × (Addr → Value → Option Addr → TS))}, HdsAs X n hds' l' → wManyAs X.K i Wout D l' cls d σ' H' →
        wpAny (model X.prog X.w) X.A (handleBy (.ref a) X.env hds') (SP X pins D) X.xe { s' with heap := h3 } := by
      intro hds' l' hk
      induction hk with
      | nil =>
        intro w
        refine wpAny_handleBy_nil ?_
        obtain ⟨k1, k2, k3, oe, vs, T, oT, ts', he, hz, hd, h1, hr⟩ := id fl3
        unfold PySem.passOn
        refine wpAny_bind (wpAny_field he hd h1 ?_)
        rw [if_neg (show ¬ ((Value.ref T == Value.none) = true) from by simp)]
        have fin : wpAny (model X.prog X.w) X.A (setFlight (.ref a) X.env.frame) (fun _ s4 => wpAny (model X.prog X.w) X.A (throw (.ref a) : Sem Flow) (SP X pins D) X.xe s4) X.xe { s' with heap := h3 } := by
          rw [hf]
          refine HandSPX.setFlight_upZ fl3 fun h4 hh4 up4 => wpAny_throw (tk _ _ ?_)
          exact ⟨a, B, sI, pins, σ', H', cls, d, rfl, J, nb, (up.trans up3).trans up4, .inr (.inr (by rw [hs]; exact hh4)), na, os, ag, w⟩
        first
          | exact wpAny_bind (wpAny_pure (wpAny_bind fin))
          | exact wpAny_bind fin
      | @cons x c ts b₀ suite np pos' hds2 l2 hc hsu r ih =>
        intro w
        obtain ⟨b, hb1, hyes, hno⟩ := w
        refine wpAny_handleBy_cons (codeAny_handlers_test ?_) (by intro q; cases q)
        have LT : PySem.W.Looks (model X.prog X.w) h3 (typeOf (.ref a)) cls := fun A Q E s k q => wpAny_typeOf_ref (k _ _ he3) (by rw [hz3.1]; exact q)
        have LM := PySem.W.exm_one (M := model X.prog X.w) (J3.kIn) LT hb1
        have test : ∀ {Q : Value → Shared → Prop} {E : Value → Shared → Prop}, Q c { s' with heap := h3 } → wpAny (model X.prog X.w) (X.A.mark (some (.ref a))) (eval (.Name x np) X.env) Q E { s' with heap := h3 } := fun {Q E} q => by
          obtain ⟨hg, hdbg, hm | ⟨hm, hv, hnn⟩⟩ := hc
          · exact ld_glob (X := X.suite a ((a, oe3) :: (X.pn ++ pins))) S3 hg hm q hdbg
          · exact ld_blt (X := X.suite a ((a, oe3) :: (X.pn ++ pins))) S3 hg hm hv q hnn hdbg
        refine test (LM.here ?_)
        cases b with
        | true =>
          refine codeAny_handlers_suite_as ?_
          refine HandSPX.lands_againZ fl3 fun h4 fl4 up4 => ?_
          have J4 : Inv X pins σ' H' { s' with heap := h4 } := J.landed nb fl4.1 ((up.trans up3).trans up4) os ag
          obtain ⟨oe4, vs4, he4, hz4, hd4⟩ := fl4.there
          have S4 := J4.suite he4 hd4 na nL nF
          refine store_ok (X := X.suite a ((a, oe4) :: (X.pn ++ pins))) (v := .ref a) S4 hN hi hloc rfl (fun s5 S5 => ?_) (.inr hln)
          refine wpAny_mono ((hsu a oe4 cls d (X.pn ++ pins) hz4 ⟨_, hd4⟩).run [] s5 _ H' _ S5 (hyes rfl a na)) (fun f s6 hsp => ?_) (fun _ _ z => False.elim z)
          have end_ : ∀ {σ6 : St} {H6 : Hp} {Q : Shared → Prop}, Inv (X.suite a ((a, oe4) :: (X.pn ++ pins))) [] σ6 H6 s6 → (∀ s7, Inv X pins (σ6.set i none) H6 s7 → Q s7) →
              wpAny (model X.prog X.w) X.A (do bindName X.env n .none; unbindBehindTheSuite X.env n pos') (fun _ s7 => Q s7) X.xe s6 := fun {σ6 H6 Q} S6 hq => gone_ok (S6.unsuite ok) hN hi hln hq
          cases f with
          | next =>
            obtain ⟨σ6, H6, S6, q6⟩ := hsp
            exact end_ S6 fun s7 J7 => ⟨_, _, J7, q6⟩
          | brk =>
            obtain ⟨σ6, H6, S6, q6⟩ := hsp
            exact end_ S6 fun s7 J7 => ⟨_, _, J7, q6⟩
          | cont =>
            obtain ⟨σ6, H6, S6, q6⟩ := hsp
            exact end_ S6 fun s7 J7 => ⟨_, _, J7, q6⟩
          | ret u =>
            obtain ⟨v6, σ6, H6, S6, r6, q6⟩ := hsp
            exact end_ S6 fun s7 J7 => ⟨_, _, _, J7, r6, q6⟩
        | false =>
          show wpAny _ X.A (handleBy (.ref a) X.env hds2) _ _ _
          exact ih (hno rfl)
    exact go hh w
  · cases f with
    | next =>
      obtain ⟨σ', H', J', q⟩ := hsp
      exact wpAny_execs_nil ⟨σ', H', J'.ofTry ok, q⟩
    | brk =>
      obtain ⟨σ', H', J', q⟩ := hsp
      exact ⟨σ', H', J'.ofTry ok, q⟩
    | cont =>
      obtain ⟨σ', H', J', q⟩ := hsp
      exact ⟨σ', H', J'.ofTry ok, q⟩
    | ret u =>
      obtain ⟨v, σ', H', J', r, q⟩ := hsp
      exact ⟨v, σ', H', J'.ofTry ok, r, q⟩
end
end Fu

namespace Fu
open PySem L2
def topS (i : Nat) : Stmt := PySem.Challenge.pw_fusenets_k79_classes_of_errors.main.body.getD i (.Pass ⟨0, 0, 0, 0⟩)
abbrev sInvNum : Stmt := inClass (topS 2) 0
abbrev sInvalidNet_init : Stmt := inClass (topS 3) 0
abbrev sInvalidPoint_init : Stmt := inClass (topS 4) 0
abbrev sInvalidLights_init : Stmt := inClass (topS 5) 0
abbrev sInvalidFuse_init : Stmt := inClass (topS 6) 0
abbrev sInvalidRules_init : Stmt := inClass (topS 7) 0
abbrev sInvalidJoin_init : Stmt := inClass (topS 8) 0
abbrev sInvalidObservations_init : Stmt := inClass (topS 9) 0
abbrev sInvalidName_init : Stmt := inClass (topS 10) 0
abbrev sInvalidAction_init : Stmt := inClass (topS 11) 0
abbrev sInvalidText_init : Stmt := inClass (topS 12) 0
abbrev sInvalidCommand_init : Stmt := inClass (topS 13) 0
abbrev sInvalidLengths_init : Stmt := inClass (topS 14) 0
abbrev sInvalidPrices_init : Stmt := inClass (topS 15) 0
abbrev sInvalidNodes_init : Stmt := inClass (topS 16) 0
abbrev sInvalidProgram_init : Stmt := inClass (topS 17) 0
abbrev sNameTaken_init : Stmt := inClass (topS 18) 0
abbrev sBlocked_init : Stmt := inClass (topS 20) 0
abbrev sLimitExceeded_init : Stmt := inClass (topS 21) 0
abbrev sUnknownName_init : Stmt := inClass (topS 22) 0
abbrev sNothingToUndo_init : Stmt := inClass (topS 23) 0
abbrev sPool : Stmt := topS 25
abbrev sTake : Stmt := topS 26
abbrev s_law_kinds : Stmt := topS 27
abbrev s_law_bases : Stmt := topS 28
abbrev s_law_made : Stmt := topS 29
abbrev s_law_fields : Stmt := topS 30
abbrev sRaised : Stmt := topS 31
abbrev sLaw : Stmt := topS 32
end Fu

namespace Fu
open PySem L2
open PyProof.Rows hiding St
open L2H (RoomH roomH_of)
structure Bu (mg : Str → Option Value) : Prop where
  len : mg "len" = none
  abs : mg "abs" = none
  int : mg "int" = none
section
variable {P : Program} {w : World} {K : PySem.W.Frag} {mg : Str → Option Value} {base : Heap} {C : Addr}
/-! ### the pool -/
theorem b01 (b : Bool) : -(2 ^ 64 : Int) < (if b = true then 1 else 0) ∧ (if b = true then (1 : Int) else 0) < 2 ^ 64 ∧ (0 : Int) ≤ (if b = true then 1 else 0) := by cases b <;> decide
def spPool (K : PySem.W.Frag) : Sp := fun vs H Q _ => ∃ (a : Addr) (ns : List Int) (k : Nat), vs = [.ref a, .int k] ∧ SqL K H a (ns.map V.int) ∧ k ≤ 63 ∧
  ∀ (p : Addr) (x y : Int), H p = none → 0 ≤ x → 0 ≤ y → Q (.ref p) (upd H p (.lst [.int x, .int y]))
theorem scPool : FnScope ["_law_script", "_law_k", "_law_cell", "_law_size", "_law_seed"] ["_law_script", "_law_k"] (defScope sPool) := ⟨rfl, rfl, rfl, by decide +kernel, rfl, by decide +kernel, by decide +kernel⟩
theorem ok_pool {f : Addr} {fd : FuncData} (F : Fun K "_law_pool" "_law_pool" sPool f fd) (B : Bu mg) : FnOk P w K mg base CX0 1 f fd ["_law_script", "_law_k"] (spPool K) := by
  refine F.ok scPool (fun vs H Q E h => ?_) (fun cdv A outer s H vs Q E hr h => ?_)
  · obtain ⟨a, ns, k, rfl, _⟩ := h
    rfl
  · obtain ⟨a, ns, k, rfl, hS, hk, kQ⟩ := h
    refine ⟨_, pss_cons (ps_set (i := 2) scPool.nd rfl (Or.inl rfl) pe_int)
      (Evl.pss_cut (ps_if (pt_cmpR op_lt (pv 1) (pe_callB call_len_seq (by rfl) B.len PySem.boot_len (pa_cons (pv 0) pa_nil)) (nomark _)) (pss_one (ps_set (i := 2) scPool.nd rfl (Or.inl rfl) (pe_ix ix_list (pv 0) (pv 1) (fun _ _ => rfl)))) pss_nil)
      (pss_cons (ps_set (i := 3) scPool.nd rfl (Or.inl rfl) (pe_callB call_abs (by rfl) B.abs (by decide +kernel) (pa_cons (pv 2) pa_nil)))
      (pss_cons (ps_set (i := 4) scPool.nd rfl (Or.inl rfl) (pe_op op_mod (pe_op op_pow (pe_op op_add (pe_op op_add (pe_op op_add (pe_op op_mod (pv 2) pe_int) (pe_op op_mul (pe_op op_mul pe_int (pv 1)) (pv 1))) (pe_op op_mul pe_int (pv 1))) pe_int) pe_int) pe_int))
      (pss_one (ps_ret (pe_lst (pa_cons (pe_op op_mul (pv 3) (pe_callTy call_int1 (by rfl) B.int (by decide +kernel) (pa_cons (pe_cmpR op_ge (pv 3) (pe_op op_pow pe_int pe_int) (nomark _)) pa_nil))) (pa_cons (pv 4) pa_nil)))))))), ?_⟩
    refine ⟨fun σ' H' => H' = H ∧ ∃ c : Int, σ' = [some (.ref a), some (.int k), some (.int c), none, none], ?_, ?_⟩
    · refine ⟨_, rfl, _, rfl, a, _, rfl, .inl hS, _, _, rfl, rfl, _, rfl, ?_⟩
      by_cases hlt : k < ns.length
      · refine if_true_of (by simpa using hlt) ⟨_, rfl, _, rfl, a, _, _, .int (ns[k]'hlt), rfl, rfl, hS, ?_, rfl, _, rfl⟩
        rw [atI_nat (j := k) (v := .int (ns[k]'hlt))]
        simp [hlt]
      · exact if_false_of (by simpa using hlt) ⟨rfl, 0, rfl⟩
    · rintro σ' H' ⟨rfl, c, rfl⟩
      have hm := Int.emod_nonneg c (show (2147483629 : Int) ≠ 0 by decide)
      have hM := Int.emod_lt_of_pos c (show (0 : Int) < 2147483629 by decide)
      have hkk : (104729 : Int) * k * k ≤ 104729 * 63 * 63 := by
        have h1 : (k : Int) ≤ 63 := by omega
        have h2 : (104729 : Int) * k ≤ 104729 * 63 := by omega
        exact Int.mul_le_mul h2 h1 (by omega) (by omega)
      have hk0 : (0 : Int) ≤ 104729 * k * k := Int.mul_nonneg (by omega) (by omega)
      refine ⟨_, rfl, _, rfl, ?_⟩
      refine ⟨_, rfl, _, _, rfl, rfl, (by show (0 : Int) < 2147483629; decide), _, rfl, _, _, rfl, rfl, .inl ⟨by decide, by decide⟩, _, rfl, _, _, rfl, rfl, .inr ⟨by omega, by omega⟩, _, _, rfl, rfl, _, rfl, _, _, rfl, rfl, .inl ⟨by decide, by decide⟩, _, _, rfl, rfl, _, _, rfl, rfl, _, _, rfl, rfl,
        ⟨by decide, by decide, by omega⟩, _, _, rfl, rfl, (by show (0 : Int) < 2147483647; decide), ?_⟩
      refine ⟨_, rfl, _, rfl, _, _, rfl, rfl, ⟨by decide, by decide, by decide⟩, _, _, rfl, rfl, .inr ⟨_, rfl, _, _, rfl, rfl, .inr ⟨(b01 _).1, (b01 _).2.1⟩, _, rfl, (by show 2 ≤ sizeLine; decide), fun p hp => ?_⟩⟩
      refine kQ p _ _ hp (Int.mul_nonneg (by split <;> omega) (b01 _).2.2) (Int.emod_nonneg _ (by decide))
/-! ### the draws -/
def spTake : Sp := fun vs H Q _ => ∃ (p : Addr) (x y m : Int), vs = [.ref p, .int m] ∧ H p = some (.lst [.int x, .int y]) ∧ 0 ≤ x ∧ 0 ≤ y ∧ 0 < m ∧ m.natAbs.log2 < 9000 ∧
  ∀ (x' y' r : Int), 0 ≤ x' → 0 ≤ y' → 0 ≤ r → r < m → Q (.int r) (upd H p (.lst [.int x', .int y']))
theorem scTake : FnScope ["_law_pool_here", "_law_many", "_law_found"] ["_law_pool_here", "_law_many"] (defScope sTake) := ⟨rfl, rfl, rfl, by decide +kernel, rfl, by decide +kernel, by decide +kernel⟩
theorem ok_take {f : Addr} {fd : FuncData} (F : Fun K "_law_take" "_law_take" sTake f fd) : FnOk P w K mg base CX0 1 f fd ["_law_pool_here", "_law_many"] spTake := by
  refine F.ok scTake (fun vs H Q E h => ?_) (fun cdv A outer s H vs Q E hr h => ?_)
  · obtain ⟨p, x, y, m, rfl, _⟩ := h
    rfl
  · obtain ⟨p, x, y, m, rfl, hp, hx, hy, hm, hl, k⟩ := h
    have it0 : atI [V.int x, V.int y] 0 = some (.int x) := rfl
    refine ⟨_, pss_cons (ps_if (pt_cmpR op_gt (pe_ix ix_list (pv 0) pe_int (fun _ _ => rfl)) pe_int (nomark _))
        (pss_cons (ps_set (i := 2) scTake.nd rfl (Or.inl rfl) (pe_op op_mod (pe_ix ix_list (pv 0) pe_int (fun _ _ => rfl)) (pv 1)))
        (pss_cons (ps_asg (pe_op op_fdivB (pe_ix ix_list (pv 0) pe_int (fun _ _ => rfl)) (pv 1)) (pg_sub (pv 0) pe_int set_list))
        (pss_one (ps_ret (pv 2))))) pss_nil)
      (pss_cons (ps_asg (pe_op op_mod (pe_op op_add (pe_op op_mul (pe_ix ix_list (pv 0) pe_int (fun _ _ => rfl)) pe_int) pe_int) pe_int) (pg_sub (pv 0) pe_int set_list))
      (pss_one (ps_ret (pe_op op_mod (pe_op op_fdiv (pe_op op_mod (pe_op op_mulW (pe_ix ix_list (pv 0) pe_int (fun _ _ => rfl)) (pe_ix ix_list (pv 0) pe_int (fun _ _ => rfl))) pe_int) pe_int) (pv 1))))), ?_⟩
    refine ⟨_, rfl, p, _, _, _, rfl, rfl, SqL.of hp, rfl, _, _, rfl, rfl, _, rfl, ?_⟩
    by_cases h0 : 0 < x
    · refine if_true_of (by simpa using h0) ⟨_, rfl, p, _, _, _, rfl, rfl, SqL.of hp, rfl, _, rfl, _, _, rfl, rfl, hm, ?_⟩
      refine ⟨_, rfl, p, _, _, _, rfl, rfl, SqL.of hp, rfl, _, rfl, _, _, rfl, rfl, ⟨by omega, hl⟩, ?_⟩
      refine ⟨_, rfl, p, _, _, 0, rfl, rfl, hp, rfl, _, rfl, ?_⟩
      exact k _ _ _ (by rw [Int.fdiv_eq_ediv_of_nonneg _ (by omega)]; exact Int.ediv_nonneg hx (by omega)) hy (Int.emod_nonneg _ (by omega)) (Int.emod_lt_of_pos _ hm)
    · refine if_false_of (by simpa using h0) ⟨_, rfl, p, _, _, _, rfl, rfl, SqL.of hp, rfl, _, _, rfl, rfl, .inr ⟨by decide, by decide⟩, _, _, rfl, rfl, _, _, rfl, rfl, (by show (0 : Int) < 2147483647; decide), ?_⟩
      have b1 := Int.emod_nonneg (y * 48271 + 11) (show (2147483647 : Int) ≠ 0 by decide)
      have b2 := Int.emod_lt_of_pos (y * 48271 + 11) (show (0 : Int) < 2147483647 by decide)
      have bw : CMulW ((y * 48271 + 11) % 2147483647) ((y * 48271 + 11) % 2147483647) := wide_mul (a := 32) (b := 32) (by omega) (by omega) (by decide) (by decide) (by decide)
      refine ⟨_, rfl, p, _, _, 1, rfl, rfl, hp, rfl, _, rfl, p, _, _, _, rfl, rfl, SqL.of upd_same, rfl, _, rfl, p, _, _, _, rfl, rfl, SqL.of upd_same, rfl, _, _, rfl, rfl, bw, _, _, rfl, rfl, (by show (0 : Int) < 2147483629; decide), _, _, rfl, rfl, ⟨by decide, by decide⟩, _, rfl, _, _, rfl, rfl, hm, ?_⟩
      exact k _ _ _ hx b1 (Int.emod_nonneg _ (by omega)) (Int.emod_lt_of_pos _ hm)
end
end Fu

namespace Fu
open PySem L2
open PyProof.Rows hiding St
open L2H (RoomH roomH_of)
/-- the names of the classes, NetError last; their fields -/
def nms : List Str := ["InvalidNumber", "InvalidNet", "InvalidPoint", "InvalidLights", "InvalidFuse", "InvalidRules", "InvalidJoin", "InvalidObservations", "InvalidName", "InvalidAction", "InvalidText", "InvalidCommand", "InvalidLengths", "InvalidPrices", "InvalidNodes", "InvalidProgram", "NameTaken", "NotATree", "Blocked", "LimitExceeded", "UnknownName", "NothingToUndo", "NetError"]
def nm (i : Nat) : Str := nms.getD i ""
def fls : List Str := ["value", "part", "value", "index", "value", "part", "value", "value", "value", "value", "index", "value", "value", "value", "value", "index", "name", "", "index", "limit", "name", "user", ""]
def fl (i : Nat) : Str := fls.getD i ""
/-- with an __init__ of its own -/
def own (i : Nat) : Bool := decide (i < 22) && decide (i ≠ 17)
/-- what the errors hold -/
def fsY (i : Nat) (v : V) : List (Str × V) := if i = 17 then [] else [(fl i, v)]
structure ErrS (P : Program) (w : World) (K : PySem.W.Frag) (mg : Str → Option Value) (base : Heap) (cl fi : Nat → Addr) (fd : Nat → FuncData) : Prop where
  e : ∀ i, own i = true → ErrY K mg (nm i) (fl i) (cl i) (fi i)
  ok : ∀ i, own i = true → FnOk P w K mg base CX0 1 (fi i) (fd i) ["self", fl i] (spX (cl i) (fl i))
  b : ∀ i, own i = true → Binds K (fd i) ["self", fl i] []
  g : ∀ i, i < 23 → mg (nm i) = some (.ref (cl i))
  x : ∀ i, i < 23 → ExcC K (cl i)
  kit : ∀ i j, i < 23 → j < 22 → PySem.W.kitOne K (.ref (cl i)) (.ref (cl j)) = some (i == j)
  kN : ∀ i, i < 22 → PySem.W.kitOne K (.ref (cl i)) (.ref (cl 22)) = some (decide (i < 17))
  kV : ∀ i, i < 22 → PySem.W.kitOne K (.ref (cl i)) (.type "ValueError") = some (decide (i < 17))
  kR : ∀ i, i < 22 → PySem.W.kitOne K (.ref (cl i)) (.type "RuntimeError") = some (i == 17 || i == 18)
  kO : ∀ i, i < 22 → PySem.W.kitOne K (.ref (cl i)) (.type "OverflowError") = some (i == 19)
  kL : ∀ i, i < 22 → PySem.W.kitOne K (.ref (cl i)) (.type "LookupError") = some (i == 20 || i == 21)
  kK : ∀ i, i < 22 → PySem.W.kitOne K (.ref (cl i)) (.type "KeyError") = some (i == 20)
  kV22 : PySem.W.kitOne K (.ref (cl 22)) (.type "ValueError") = some true
  n17 : PySem.W.excIn K (cl 17) tailR "RuntimeError.__new__" = true
  k17 : PySem.W.keepIn K (.ref (cl 17)) = true
  n22 : PySem.W.excIn K (cl 22) tailV "ValueError.__new__" = true
  k22 : PySem.W.keepIn K (.ref (cl 22)) = true
  m : ∀ i j, i < 22 → (j = 22 ∨ j = 19 ∨ j = 20 ∨ j = 21) → PySem.W.exmOne K (.ref (cl i)) (.ref (cl j)) = some (if j = 22 then decide (i < 17) else i == j)
structure Bx (mg : Str → Option Value) : Prop where
  isi : mg "isinstance" = none
  ve : mg "ValueError" = none
  re : mg "RuntimeError" = none
  oe : mg "OverflowError" = none
  le : mg "LookupError" = none
  ke : mg "KeyError" = none
  range : mg "range" = none
  max : mg "max" = none
  min : mg "min" = none
  len : mg "len" = none
  repr : mg "repr" = none
  enumerate : mg "enumerate" = none
theorem Same.new {H : Hp} {p : Addr} {o : HO} (h : H p = none) : Same H (upd H p o) := fun b u e => by
  rw [upd_ne (ne_of_none e h)]
  exact e
theorem ErAt.ex {H H' : Hp} {a C : Addr} {fs : List (Str × V)} (h : ErAt H a C fs) (s : Same H H') : ErAt H' a C fs := by
  rcases h with ⟨h1, h2⟩ | ⟨dd, h1, h2⟩
  · exact .inl ⟨s _ _ h1, h2⟩
  · exact .inr ⟨dd, s _ _ h1, s _ _ h2⟩
def kindsL (n i : Nat) : List V := (List.range n).map fun j => V.bl (i == j)
def spKinds (cl : Nat → Addr) : Sp := fun vs H Q _ => ∃ (a : Addr) (i : Nat) (fs : List (Str × V)), vs = [.ref a] ∧ i < 23 ∧ ErAt H a (cl i) fs ∧ ∀ H' p, Same H H' → H' p = some (.lst (kindsL 22 i)) → Q (.ref p) H'
def basesL (i : Nat) : List V := [.bl (decide (i < 17)), .bl (decide (i < 17)), .bl (i == 17 || i == 18), .bl (i == 19), .bl (i == 20 || i == 21), .bl (i == 20)]
def spBases (cl : Nat → Addr) : Sp := fun vs H Q _ => ∃ (a : Addr) (i : Nat) (fs : List (Str × V)), vs = [.ref a] ∧ i < 22 ∧ ErAt H a (cl i) fs ∧ ∀ H' p, Same H H' → H' p = some (.lst (basesL i)) → Q (.ref p) H'
section
variable {P : Program} {w : World} {K : PySem.W.Frag} {mg : Str → Option Value} {base : Heap} {cl fi : Nat → Addr} {fdi : Nat → FuncData}
theorem scKinds : FnScope ["_law_e", "_law_found"] ["_law_e"] (defScope s_law_kinds) := ⟨rfl, rfl, rfl, by decide +kernel, rfl, by decide +kernel, by decide +kernel⟩
theorem scBases : FnScope ["_law_e", "_law_found"] ["_law_e"] (defScope s_law_bases) := ⟨rfl, rfl, rfl, by decide +kernel, rfl, by decide +kernel, by decide +kernel⟩
theorem ok_kinds {f : Addr} {fd : FuncData} (F : Fun K "_law_kinds" "_law_kinds" s_law_kinds f fd) (B : Bx mg) (S : ErrS P w K mg base cl fi fdi) : FnOk P w K mg base CX0 1 f fd ["_law_e"] (spKinds cl) := by
  refine F.ok scKinds (fun vs H Q E h => ?_) (fun cdv A outer s H vs Q E hr h => ?_)
  · obtain ⟨a, i, fs, rfl, _⟩ := h
    rfl
  · obtain ⟨a, i, fs, rfl, hi, hE, k⟩ := h
    refine ⟨_, (Evl.pss_cut (ps_set (i := 1) scKinds.nd rfl (Or.inl rfl) (pe_lst (pa_cons (pe_callB call_isY (by rfl) B.isi (by decide +kernel) (pa_cons (pv 0) (pa_cons (pe_glob (v := .ref (cl 0)) (by rfl) (S.g 0 (by decide)) rfl) pa_nil))) (pa_cons (pe_callB call_isY (by rfl) B.isi (by decide +kernel) (pa_cons (pv 0) (pa_cons (pe_glob (v := .ref (cl 1)) (by rfl) (S.g 1 (by decide)) rfl) pa_nil))) (pa_cons (pe_callB call_isY (by rfl) B.isi (by decide +kernel) (pa_cons (pv 0) (pa_cons (pe_glob (v := .ref (cl 2)) (by rfl) (S.g 2 (by decide)) rfl) pa_nil))) pa_nil)))))
      (Evl.pss_cut (ps_set (i := 1) scKinds.nd rfl (Or.inl rfl) (pe_op op_cat (pv 1) (pe_lst (pa_cons (pe_callB call_isY (by rfl) B.isi (by decide +kernel) (pa_cons (pv 0) (pa_cons (pe_glob (v := .ref (cl 3)) (by rfl) (S.g 3 (by decide)) rfl) pa_nil))) (pa_cons (pe_callB call_isY (by rfl) B.isi (by decide +kernel) (pa_cons (pv 0) (pa_cons (pe_glob (v := .ref (cl 4)) (by rfl) (S.g 4 (by decide)) rfl) pa_nil))) (pa_cons (pe_callB call_isY (by rfl) B.isi (by decide +kernel) (pa_cons (pv 0) (pa_cons (pe_glob (v := .ref (cl 5)) (by rfl) (S.g 5 (by decide)) rfl) pa_nil))) pa_nil))))))
      (Evl.pss_cut (ps_set (i := 1) scKinds.nd rfl (Or.inl rfl) (pe_op op_cat (pv 1) (pe_lst (pa_cons (pe_callB call_isY (by rfl) B.isi (by decide +kernel) (pa_cons (pv 0) (pa_cons (pe_glob (v := .ref (cl 6)) (by rfl) (S.g 6 (by decide)) rfl) pa_nil))) (pa_cons (pe_callB call_isY (by rfl) B.isi (by decide +kernel) (pa_cons (pv 0) (pa_cons (pe_glob (v := .ref (cl 7)) (by rfl) (S.g 7 (by decide)) rfl) pa_nil))) (pa_cons (pe_callB call_isY (by rfl) B.isi (by decide +kernel) (pa_cons (pv 0) (pa_cons (pe_glob (v := .ref (cl 8)) (by rfl) (S.g 8 (by decide)) rfl) pa_nil))) pa_nil))))))
      (Evl.pss_cut (ps_set (i := 1) scKinds.nd rfl (Or.inl rfl) (pe_op op_cat (pv 1) (pe_lst (pa_cons (pe_callB call_isY (by rfl) B.isi (by decide +kernel) (pa_cons (pv 0) (pa_cons (pe_glob (v := .ref (cl 9)) (by rfl) (S.g 9 (by decide)) rfl) pa_nil))) (pa_cons (pe_callB call_isY (by rfl) B.isi (by decide +kernel) (pa_cons (pv 0) (pa_cons (pe_glob (v := .ref (cl 10)) (by rfl) (S.g 10 (by decide)) rfl) pa_nil))) (pa_cons (pe_callB call_isY (by rfl) B.isi (by decide +kernel) (pa_cons (pv 0) (pa_cons (pe_glob (v := .ref (cl 11)) (by rfl) (S.g 11 (by decide)) rfl) pa_nil))) pa_nil))))))
      (Evl.pss_cut (ps_set (i := 1) scKinds.nd rfl (Or.inl rfl) (pe_op op_cat (pv 1) (pe_lst (pa_cons (pe_callB call_isY (by rfl) B.isi (by decide +kernel) (pa_cons (pv 0) (pa_cons (pe_glob (v := .ref (cl 12)) (by rfl) (S.g 12 (by decide)) rfl) pa_nil))) (pa_cons (pe_callB call_isY (by rfl) B.isi (by decide +kernel) (pa_cons (pv 0) (pa_cons (pe_glob (v := .ref (cl 13)) (by rfl) (S.g 13 (by decide)) rfl) pa_nil))) (pa_cons (pe_callB call_isY (by rfl) B.isi (by decide +kernel) (pa_cons (pv 0) (pa_cons (pe_glob (v := .ref (cl 14)) (by rfl) (S.g 14 (by decide)) rfl) pa_nil))) pa_nil))))))
      (Evl.pss_cut (ps_set (i := 1) scKinds.nd rfl (Or.inl rfl) (pe_op op_cat (pv 1) (pe_lst (pa_cons (pe_callB call_isY (by rfl) B.isi (by decide +kernel) (pa_cons (pv 0) (pa_cons (pe_glob (v := .ref (cl 15)) (by rfl) (S.g 15 (by decide)) rfl) pa_nil))) pa_nil))))
      (Evl.pss_cut (ps_set (i := 1) scKinds.nd rfl (Or.inl rfl) (pe_op op_cat (pv 1) (pe_lst (pa_cons (pe_callB call_isY (by rfl) B.isi (by decide +kernel) (pa_cons (pv 0) (pa_cons (pe_glob (v := .ref (cl 16)) (by rfl) (S.g 16 (by decide)) rfl) pa_nil))) (pa_cons (pe_callB call_isY (by rfl) B.isi (by decide +kernel) (pa_cons (pv 0) (pa_cons (pe_glob (v := .ref (cl 17)) (by rfl) (S.g 17 (by decide)) rfl) pa_nil))) (pa_cons (pe_callB call_isY (by rfl) B.isi (by decide +kernel) (pa_cons (pv 0) (pa_cons (pe_glob (v := .ref (cl 18)) (by rfl) (S.g 18 (by decide)) rfl) pa_nil))) pa_nil))))))
      (pss_one (ps_ret (pe_op op_cat (pv 1) (pe_lst (pa_cons (pe_callB call_isY (by rfl) B.isi (by decide +kernel) (pa_cons (pv 0) (pa_cons (pe_glob (v := .ref (cl 19)) (by rfl) (S.g 19 (by decide)) rfl) pa_nil))) (pa_cons (pe_callB call_isY (by rfl) B.isi (by decide +kernel) (pa_cons (pv 0) (pa_cons (pe_glob (v := .ref (cl 20)) (by rfl) (S.g 20 (by decide)) rfl) pa_nil))) (pa_cons (pe_callB call_isY (by rfl) B.isi (by decide +kernel) (pa_cons (pv 0) (pa_cons (pe_glob (v := .ref (cl 21)) (by rfl) (S.g 21 (by decide)) rfl) pa_nil))) pa_nil)))))))))))))), ?_⟩
    refine ⟨fun σ' H' => ∃ q, σ' = [some (.ref a), some (.ref q)] ∧ Same H H' ∧ H' q = some (.lst (kindsL 3 i)), ?_, ?_⟩
    · refine ⟨_, rfl, a, _, fs, _, _, _, rfl, hE, S.x i hi, .own _, S.kit i 0 hi (by decide), _, rfl, a, _, fs, _, _, _, rfl, hE, S.x i hi, .own _, S.kit i 1 hi (by decide), _, rfl, a, _, fs, _, _, _, rfl, hE, S.x i hi, .own _, S.kit i 2 hi (by decide), (by show 3 ≤ sizeLine; decide), fun p np => ?_⟩
      exact ⟨p, rfl, Same.new np, upd_same⟩
    rintro _ H1 ⟨q, rfl, s1, hq⟩
    refine ⟨fun σ' H' => ∃ q, σ' = [some (.ref a), some (.ref q)] ∧ Same H H' ∧ H' q = some (.lst (kindsL 6 i)), ?_, ?_⟩
    · refine ⟨_, rfl, _, rfl, a, _, fs, _, _, _, rfl, (hE.ex s1), S.x i hi, .own _, S.kit i 3 hi (by decide), _, rfl, a, _, fs, _, _, _, rfl, (hE.ex s1), S.x i hi, .own _, S.kit i 4 hi (by decide), _, rfl, a, _, fs, _, _, _, rfl, (hE.ex s1), S.x i hi, .own _, S.kit i 5 hi (by decide), (by show 3 ≤ sizeLine; decide), fun p np => ?_⟩
      refine ⟨q, p, _, _, rfl, rfl, Same.new np _ _ hq, upd_same, (by show 3 + 3 ≤ sizeLine; decide), fun r nr => ?_⟩
      exact ⟨r, rfl, (s1.trans (Same.new np)).trans (Same.new nr), upd_same⟩
    rintro _ H1 ⟨q, rfl, s1, hq⟩
    refine ⟨fun σ' H' => ∃ q, σ' = [some (.ref a), some (.ref q)] ∧ Same H H' ∧ H' q = some (.lst (kindsL 9 i)), ?_, ?_⟩
    · refine ⟨_, rfl, _, rfl, a, _, fs, _, _, _, rfl, (hE.ex s1), S.x i hi, .own _, S.kit i 6 hi (by decide), _, rfl, a, _, fs, _, _, _, rfl, (hE.ex s1), S.x i hi, .own _, S.kit i 7 hi (by decide), _, rfl, a, _, fs, _, _, _, rfl, (hE.ex s1), S.x i hi, .own _, S.kit i 8 hi (by decide), (by show 3 ≤ sizeLine; decide), fun p np => ?_⟩
      refine ⟨q, p, _, _, rfl, rfl, Same.new np _ _ hq, upd_same, (by show 6 + 3 ≤ sizeLine; decide), fun r nr => ?_⟩
      exact ⟨r, rfl, (s1.trans (Same.new np)).trans (Same.new nr), upd_same⟩
    rintro _ H1 ⟨q, rfl, s1, hq⟩
    refine ⟨fun σ' H' => ∃ q, σ' = [some (.ref a), some (.ref q)] ∧ Same H H' ∧ H' q = some (.lst (kindsL 12 i)), ?_, ?_⟩
    · refine ⟨_, rfl, _, rfl, a, _, fs, _, _, _, rfl, (hE.ex s1), S.x i hi, .own _, S.kit i 9 hi (by decide), _, rfl, a, _, fs, _, _, _, rfl, (hE.ex s1), S.x i hi, .own _, S.kit i 10 hi (by decide), _, rfl, a, _, fs, _, _, _, rfl, (hE.ex s1), S.x i hi, .own _, S.kit i 11 hi (by decide), (by show 3 ≤ sizeLine; decide), fun p np => ?_⟩
      refine ⟨q, p, _, _, rfl, rfl, Same.new np _ _ hq, upd_same, (by show 9 + 3 ≤ sizeLine; decide), fun r nr => ?_⟩
      exact ⟨r, rfl, (s1.trans (Same.new np)).trans (Same.new nr), upd_same⟩
    rintro _ H1 ⟨q, rfl, s1, hq⟩
    refine ⟨fun σ' H' => ∃ q, σ' = [some (.ref a), some (.ref q)] ∧ Same H H' ∧ H' q = some (.lst (kindsL 15 i)), ?_, ?_⟩
    · refine ⟨_, rfl, _, rfl, a, _, fs, _, _, _, rfl, (hE.ex s1), S.x i hi, .own _, S.kit i 12 hi (by decide), _, rfl, a, _, fs, _, _, _, rfl, (hE.ex s1), S.x i hi, .own _, S.kit i 13 hi (by decide), _, rfl, a, _, fs, _, _, _, rfl, (hE.ex s1), S.x i hi, .own _, S.kit i 14 hi (by decide), (by show 3 ≤ sizeLine; decide), fun p np => ?_⟩
      refine ⟨q, p, _, _, rfl, rfl, Same.new np _ _ hq, upd_same, (by show 12 + 3 ≤ sizeLine; decide), fun r nr => ?_⟩
      exact ⟨r, rfl, (s1.trans (Same.new np)).trans (Same.new nr), upd_same⟩
    rintro _ H1 ⟨q, rfl, s1, hq⟩
    refine ⟨fun σ' H' => ∃ q, σ' = [some (.ref a), some (.ref q)] ∧ Same H H' ∧ H' q = some (.lst (kindsL 16 i)), ?_, ?_⟩
    · refine ⟨_, rfl, _, rfl, a, _, fs, _, _, _, rfl, (hE.ex s1), S.x i hi, .own _, S.kit i 15 hi (by decide), (by show 1 ≤ sizeLine; decide), fun p np => ?_⟩
      refine ⟨q, p, _, _, rfl, rfl, Same.new np _ _ hq, upd_same, (by show 15 + 1 ≤ sizeLine; decide), fun r nr => ?_⟩
      exact ⟨r, rfl, (s1.trans (Same.new np)).trans (Same.new nr), upd_same⟩
    rintro _ H1 ⟨q, rfl, s1, hq⟩
    refine ⟨fun σ' H' => ∃ q, σ' = [some (.ref a), some (.ref q)] ∧ Same H H' ∧ H' q = some (.lst (kindsL 19 i)), ?_, ?_⟩
    · refine ⟨_, rfl, _, rfl, a, _, fs, _, _, _, rfl, (hE.ex s1), S.x i hi, .own _, S.kit i 16 hi (by decide), _, rfl, a, _, fs, _, _, _, rfl, (hE.ex s1), S.x i hi, .own _, S.kit i 17 hi (by decide), _, rfl, a, _, fs, _, _, _, rfl, (hE.ex s1), S.x i hi, .own _, S.kit i 18 hi (by decide), (by show 3 ≤ sizeLine; decide), fun p np => ?_⟩
      refine ⟨q, p, _, _, rfl, rfl, Same.new np _ _ hq, upd_same, (by show 16 + 3 ≤ sizeLine; decide), fun r nr => ?_⟩
      exact ⟨r, rfl, (s1.trans (Same.new np)).trans (Same.new nr), upd_same⟩
    rintro _ H1 ⟨q, rfl, s1, hq⟩
    refine ⟨_, rfl, _, rfl, a, _, fs, _, _, _, rfl, (hE.ex s1), S.x i hi, .own _, S.kit i 19 hi (by decide), _, rfl, a, _, fs, _, _, _, rfl, (hE.ex s1), S.x i hi, .own _, S.kit i 20 hi (by decide), _, rfl, a, _, fs, _, _, _, rfl, (hE.ex s1), S.x i hi, .own _, S.kit i 21 hi (by decide), (by show 3 ≤ sizeLine; decide), fun p np => ?_⟩
    refine ⟨q, p, _, _, rfl, rfl, Same.new np _ _ hq, upd_same, (by show 19 + 3 ≤ sizeLine; decide), fun r nr => ?_⟩
    exact k _ r ((s1.trans (Same.new np)).trans (Same.new nr)) upd_same
theorem ok_bases {f : Addr} {fd : FuncData} (F : Fun K "_law_bases" "_law_bases" s_law_bases f fd) (B : Bx mg) (S : ErrS P w K mg base cl fi fdi) : FnOk P w K mg base CX0 1 f fd ["_law_e"] (spBases cl) := by
  refine F.ok scBases (fun vs H Q E h => ?_) (fun cdv A outer s H vs Q E hr h => ?_)
  · obtain ⟨a, i, fs, rfl, _⟩ := h
    rfl
  · obtain ⟨a, i, fs, rfl, hi, hE, k⟩ := h
    have hi' : i < 23 := by omega
    refine ⟨_, (Evl.pss_cut (ps_set (i := 1) scBases.nd rfl (Or.inl rfl) (pe_lst (pa_cons (pe_callB call_isY (by rfl) B.isi (by decide +kernel) (pa_cons (pv 0) (pa_cons (pe_glob (v := .ref (cl 22)) (by rfl) (S.g 22 (by decide)) rfl) pa_nil))) (pa_cons (pe_callB call_isY (by rfl) B.isi (by decide +kernel) (pa_cons (pv 0) (pa_cons (pe_bltn (v := .ty "ValueError") (by rfl) B.ve (by decide +kernel) rfl) pa_nil))) (pa_cons (pe_callB call_isY (by rfl) B.isi (by decide +kernel) (pa_cons (pv 0) (pa_cons (pe_bltn (v := .ty "RuntimeError") (by rfl) B.re (by decide +kernel) rfl) pa_nil))) pa_nil))))) (pss_one (ps_ret (pe_op op_cat (pv 1) (pe_lst (pa_cons (pe_callB call_isY (by rfl) B.isi (by decide +kernel) (pa_cons (pv 0) (pa_cons (pe_bltn (v := .ty "OverflowError") (by rfl) B.oe (by decide +kernel) rfl) pa_nil))) (pa_cons (pe_callB call_isY (by rfl) B.isi (by decide +kernel) (pa_cons (pv 0) (pa_cons (pe_bltn (v := .ty "LookupError") (by rfl) B.le (by decide +kernel) rfl) pa_nil))) (pa_cons (pe_callB call_isY (by rfl) B.isi (by decide +kernel) (pa_cons (pv 0) (pa_cons (pe_bltn (v := .ty "KeyError") (by rfl) B.ke (by decide +kernel) rfl) pa_nil))) pa_nil)))))))), ?_⟩
    refine ⟨fun σ' H' => ∃ q, σ' = [some (.ref a), some (.ref q)] ∧ Same H H' ∧ H' q = some (.lst [.bl (decide (i < 17)), .bl (decide (i < 17)), .bl (i == 17 || i == 18)]), ?_, ?_⟩
    · refine ⟨_, rfl, a, _, fs, _, _, _, rfl, hE, S.x i hi', .own _, S.kN i hi, _, rfl, a, _, fs, _, _, _, rfl, hE, S.x i hi', .ty _, S.kV i hi, _, rfl, a, _, fs, _, _, _, rfl, hE, S.x i hi', .ty _, S.kR i hi, (by show 3 ≤ sizeLine; decide), fun p np => ⟨p, rfl, Same.new np, upd_same⟩⟩
    rintro _ H1 ⟨q, rfl, s1, hq⟩
    refine ⟨_, rfl, _, rfl, a, _, fs, _, _, _, rfl, hE.ex s1, S.x i hi', .ty _, S.kO i hi, _, rfl, a, _, fs, _, _, _, rfl, hE.ex s1, S.x i hi', .ty _, S.kL i hi, _, rfl, a, _, fs, _, _, _, rfl, hE.ex s1, S.x i hi', .ty _, S.kK i hi, (by show 3 ≤ sizeLine; decide), fun p np => ?_⟩
    exact ⟨q, p, _, _, rfl, rfl, Same.new np _ _ hq, upd_same, (by show 3 + 3 ≤ sizeLine; decide), fun r nr => k _ r ((s1.trans (Same.new np)).trans (Same.new nr)) upd_same⟩
end
end Fu

namespace Fu
open PySem L2
open PyProof.Rows hiding St
open L2H (RoomH roomH_of)
theorem same_mk {H : Hp} {a dx C : Addr} {f : Str} {v : V} (n : H a = none) (m : H dx = none) : Same H (upd (upd (upd H a (exo a C none)) dx (exd dx [(f, v)])) a (exo a C (some dx))) := fun b o e => by
  rw [upd_ne (ne_of_none e n), upd_ne (ne_of_none e m), upd_ne (ne_of_none e n)]
  exact e
theorem er_mk {H : Hp} {a dx C : Addr} {f : Str} {v : V} (ne : dx ≠ a) : ErAt (upd (upd (upd H a (exo a C none)) dx (exd dx [(f, v)])) a (exo a C (some dx))) a C [(f, v)] := .inr ⟨dx, upd_same, by rw [upd_ne ne, upd_same]⟩
theorem er_mk0 {H : Hp} {a C : Addr} : ErAt (upd H a (exo a C none)) a C [] := .inl ⟨upd_same, rfl⟩
/-- the errors, from the n-th on -/
def Ers (cl : Nat → Addr) (v : V) (H : Hp) : Nat → List Addr → Prop
  | _, [] => True
  | n, a :: as => ErAt H a (cl n) (fsY n v) ∧ Ers cl v H (n + 1) as
theorem Ers.ex {cl : Nat → Addr} {v : V} {H H' : Hp} (s : Same H H') : ∀ {n : Nat} {as : List Addr}, Ers cl v H n as → Ers cl v H' n as
  | _, [], _ => trivial
  | _, _ :: _, h => ⟨h.1.ex s, Ers.ex s h.2⟩
theorem Ers.app {cl : Nat → Addr} {v : V} {H : Hp} {bs : List Addr} : ∀ {n m : Nat} {as : List Addr}, Ers cl v H n as → as.length + n = m → Ers cl v H m bs → Ers cl v H n (as ++ bs)
  | n, m, [], _, e, h => by
    obtain rfl : n = m := by simpa using e
    exact h
  | n, m, a :: as, h1, e, h2 => ⟨h1.1, Ers.app h1.2 (by simp at e; omega) h2⟩
theorem Ers.get {cl : Nat → Addr} {v : V} {H : Hp} : ∀ {n i : Nat} {as : List Addr} {a : Addr}, Ers cl v H n as → as[i]? = some a → ErAt H a (cl (n + i)) (fsY (n + i) v)
  | n, 0, b :: as, a, h, e => by
    cases e
    exact h.1
  | n, i + 1, b :: as, a, h, e => by
    have z := Ers.get (i := i) h.2 (by simpa using e)
    rw [show n + (i + 1) = n + 1 + i by omega]
    exact z
def spMade (cl : Nat → Addr) : Sp := fun vs H Q _ => ∃ v, vs = [v] ∧ ∀ H' p as, Same H H' → H' p = some (.lst (as.map V.ref)) → as.length = 22 → Ers cl v H' 0 as → Q (.ref p) H'
def spFields (cl : Nat → Addr) : Sp := fun vs H Q _ => ∃ (p : Addr) (as : List Addr) (v : V), vs = [.ref p] ∧ H p = some (.lst (as.map V.ref)) ∧ as.length = 22 ∧ Ers cl v H 0 as ∧ ∀ H' q, Same H H' → H' q = some (.lst (List.replicate 21 v)) → Q (.ref q) H'
section
variable {P : Program} {w : World} {K : PySem.W.Frag} {mg : Str → Option Value} {base : Heap} {cl fi : Nat → Addr} {fdi : Nat → FuncData}
theorem scMade : FnScope ["_law_value", "_law_found"] ["_law_value"] (defScope s_law_made) := ⟨rfl, rfl, rfl, by decide +kernel, rfl, by decide +kernel, by decide +kernel⟩
theorem scFields : FnScope ["_law_made_here", "_law_found"] ["_law_made_here"] (defScope s_law_fields) := ⟨rfl, rfl, rfl, by decide +kernel, rfl, by decide +kernel, by decide +kernel⟩
theorem ok_made {f : Addr} {fd : FuncData} (F : Fun K "_law_made" "_law_made" s_law_made f fd) (S : ErrS P w K mg base cl fi fdi) : FnOk P w K mg base CX0 3 f fd ["_law_value"] (spMade cl) := by
  refine F.ok scMade (fun vs H Q E h => ?_) (fun cdv A outer s H vs Q E hr h => ?_)
  · obtain ⟨v, rfl, _⟩ := h
    rfl
  · obtain ⟨v, rfl, k⟩ := h
    refine ⟨_, (Evl.pss_cut (ps_set (i := 1) scMade.nd rfl (Or.inl rfl) (pe_lst (pa_cons (pe_mkY (x := "InvalidNumber") (f := "value") (S.e 0 rfl) (S.ok 0 rfl) hr (S.b 0 rfl) (pa_cons (pv 0) pa_nil)) (pa_cons (pe_mkY (x := "InvalidNet") (f := "part") (S.e 1 rfl) (S.ok 1 rfl) hr (S.b 1 rfl) (pa_cons (pv 0) pa_nil)) (pa_cons (pe_mkY (x := "InvalidPoint") (f := "value") (S.e 2 rfl) (S.ok 2 rfl) hr (S.b 2 rfl) (pa_cons (pv 0) pa_nil)) (pa_cons (pe_mkY (x := "InvalidLights") (f := "index") (S.e 3 rfl) (S.ok 3 rfl) hr (S.b 3 rfl) (pa_cons (pv 0) pa_nil)) (pa_cons (pe_mkY (x := "InvalidFuse") (f := "value") (S.e 4 rfl) (S.ok 4 rfl) hr (S.b 4 rfl) (pa_cons (pv 0) pa_nil)) pa_nil)))))))
      (Evl.pss_cut (ps_set (i := 1) scMade.nd rfl (Or.inl rfl) (pe_op op_cat (pv 1) (pe_lst (pa_cons (pe_mkY (x := "InvalidRules") (f := "part") (S.e 5 rfl) (S.ok 5 rfl) hr (S.b 5 rfl) (pa_cons (pv 0) pa_nil)) (pa_cons (pe_mkY (x := "InvalidJoin") (f := "value") (S.e 6 rfl) (S.ok 6 rfl) hr (S.b 6 rfl) (pa_cons (pv 0) pa_nil)) (pa_cons (pe_mkY (x := "InvalidObservations") (f := "value") (S.e 7 rfl) (S.ok 7 rfl) hr (S.b 7 rfl) (pa_cons (pv 0) pa_nil)) (pa_cons (pe_mkY (x := "InvalidName") (f := "value") (S.e 8 rfl) (S.ok 8 rfl) hr (S.b 8 rfl) (pa_cons (pv 0) pa_nil)) pa_nil)))))))
      (Evl.pss_cut (ps_set (i := 1) scMade.nd rfl (Or.inl rfl) (pe_op op_cat (pv 1) (pe_lst (pa_cons (pe_mkY (x := "InvalidAction") (f := "value") (S.e 9 rfl) (S.ok 9 rfl) hr (S.b 9 rfl) (pa_cons (pv 0) pa_nil)) (pa_cons (pe_mkY (x := "InvalidText") (f := "index") (S.e 10 rfl) (S.ok 10 rfl) hr (S.b 10 rfl) (pa_cons (pv 0) pa_nil)) (pa_cons (pe_mkY (x := "InvalidCommand") (f := "value") (S.e 11 rfl) (S.ok 11 rfl) hr (S.b 11 rfl) (pa_cons (pv 0) pa_nil)) (pa_cons (pe_mkY (x := "InvalidLengths") (f := "value") (S.e 12 rfl) (S.ok 12 rfl) hr (S.b 12 rfl) (pa_cons (pv 0) pa_nil)) pa_nil)))))))
      (Evl.pss_cut (ps_set (i := 1) scMade.nd rfl (Or.inl rfl) (pe_op op_cat (pv 1) (pe_lst (pa_cons (pe_mkY (x := "InvalidPrices") (f := "value") (S.e 13 rfl) (S.ok 13 rfl) hr (S.b 13 rfl) (pa_cons (pv 0) pa_nil)) (pa_cons (pe_mkY (x := "InvalidNodes") (f := "value") (S.e 14 rfl) (S.ok 14 rfl) hr (S.b 14 rfl) (pa_cons (pv 0) pa_nil)) (pa_cons (pe_mkY (x := "InvalidProgram") (f := "index") (S.e 15 rfl) (S.ok 15 rfl) hr (S.b 15 rfl) (pa_cons (pv 0) pa_nil)) (pa_cons (pe_mkY (x := "NameTaken") (f := "name") (S.e 16 rfl) (S.ok 16 rfl) hr (S.b 16 rfl) (pa_cons (pv 0) pa_nil)) (pa_cons (pe_mkY0 PySem.F.excBase_RuntimeError S.n17 (S.g 17 (by decide)) S.k17) pa_nil))))))))
      (pss_one (ps_ret (pe_op op_cat (pv 1) (pe_lst (pa_cons (pe_mkY (x := "Blocked") (f := "index") (S.e 18 rfl) (S.ok 18 rfl) hr (S.b 18 rfl) (pa_cons (pv 0) pa_nil)) (pa_cons (pe_mkY (x := "LimitExceeded") (f := "limit") (S.e 19 rfl) (S.ok 19 rfl) hr (S.b 19 rfl) (pa_cons (pv 0) pa_nil)) (pa_cons (pe_mkY (x := "UnknownName") (f := "name") (S.e 20 rfl) (S.ok 20 rfl) hr (S.b 20 rfl) (pa_cons (pv 0) pa_nil)) (pa_cons (pe_mkY (x := "NothingToUndo") (f := "user") (S.e 21 rfl) (S.ok 21 rfl) hr (S.b 21 rfl) (pa_cons (pv 0) pa_nil)) pa_nil)))))))))))), ?_⟩
    refine ⟨fun σ' H' => ∃ q as, σ' = [some v, some (.ref q)] ∧ Same H H' ∧ H' q = some (.lst (as.map V.ref)) ∧ as.length = 5 ∧ Ers cl v H' 0 as, ?_, ?_⟩
    · refine ⟨_, rfl, _, rfl, fun a0 d0 n0 m0 e0 => ⟨_, rfl, _, rfl, fun a1 d1 n1 m1 e1 => ⟨_, rfl, _, rfl, fun a2 d2 n2 m2 e2 => ⟨_, rfl, _, rfl, fun a3 d3 n3 m3 e3 => ⟨_, rfl, _, rfl, fun a4 d4 n4 m4 e4 => ⟨(by show 5 ≤ sizeLine; decide), fun p np => ?_⟩⟩⟩⟩⟩⟩
      have s0 := same_mk (C := cl 0) (f := "value") (v := v) n0 m0
      have s1 := same_mk (C := cl 1) (f := "part") (v := v) n1 m1
      have s2 := same_mk (C := cl 2) (f := "value") (v := v) n2 m2
      have s3 := same_mk (C := cl 3) (f := "index") (v := v) n3 m3
      have s4 := same_mk (C := cl 4) (f := "value") (v := v) n4 m4
      have sp := Same.new (o := .lst [.ref a0, .ref a1, .ref a2, .ref a3, .ref a4]) np
      exact ⟨p, [a0, a1, a2, a3, a4], rfl, (s0.trans (s1.trans (s2.trans (s3.trans (s4.trans sp))))), upd_same, rfl, ⟨ErAt.ex (er_mk (f := "value") e0) (s1.trans (s2.trans (s3.trans (s4.trans sp)))), ⟨ErAt.ex (er_mk (f := "part") e1) (s2.trans (s3.trans (s4.trans sp))), ⟨ErAt.ex (er_mk (f := "value") e2) (s3.trans (s4.trans sp)), ⟨ErAt.ex (er_mk (f := "index") e3) (s4.trans sp), ⟨ErAt.ex (er_mk (f := "value") e4) sp, trivial⟩⟩⟩⟩⟩⟩
    rintro _ H1 ⟨q, as, rfl, sH, hq, hl, hE⟩
    refine ⟨fun σ' H' => ∃ q as, σ' = [some v, some (.ref q)] ∧ Same H H' ∧ H' q = some (.lst (as.map V.ref)) ∧ as.length = 9 ∧ Ers cl v H' 0 as, ?_, ?_⟩
    · refine ⟨_, rfl, ⟨_, rfl, _, rfl, fun a5 d5 n5 m5 e5 => ⟨_, rfl, _, rfl, fun a6 d6 n6 m6 e6 => ⟨_, rfl, _, rfl, fun a7 d7 n7 m7 e7 => ⟨_, rfl, _, rfl, fun a8 d8 n8 m8 e8 => ⟨(by show 4 ≤ sizeLine; decide), fun p np => ?_⟩⟩⟩⟩⟩⟩
      have s5 := same_mk (C := cl 5) (f := "part") (v := v) n5 m5
      have s6 := same_mk (C := cl 6) (f := "value") (v := v) n6 m6
      have s7 := same_mk (C := cl 7) (f := "value") (v := v) n7 m7
      have s8 := same_mk (C := cl 8) (f := "value") (v := v) n8 m8
      have sp := Same.new (o := .lst [.ref a5, .ref a6, .ref a7, .ref a8]) np
      refine ⟨q, p, _, _, rfl, rfl, (s5.trans (s6.trans (s7.trans (s8.trans sp)))) _ _ hq, upd_same, (by rw [List.length_map, hl]; show 5 + 4 ≤ sizeLine; decide), fun r nr => ?_⟩
      have sr := Same.new (o := .lst (as.map V.ref ++ [.ref a5, .ref a6, .ref a7, .ref a8])) nr
      exact ⟨r, as ++ [a5, a6, a7, a8], rfl, sH.trans (s5.trans (s6.trans (s7.trans (s8.trans (sp.trans sr))))), (by rw [List.map_append]; exact upd_same), (by rw [List.length_append, hl]; rfl), Ers.app (m := 5) (hE.ex (s5.trans (s6.trans (s7.trans (s8.trans (sp.trans sr)))))) (by rw [hl]) (by exact ⟨ErAt.ex (er_mk (f := "part") e5) (s6.trans (s7.trans (s8.trans (sp.trans sr)))), ⟨ErAt.ex (er_mk (f := "value") e6) (s7.trans (s8.trans (sp.trans sr))), ⟨ErAt.ex (er_mk (f := "value") e7) (s8.trans (sp.trans sr)), ⟨ErAt.ex (er_mk (f := "value") e8) (sp.trans sr), trivial⟩⟩⟩⟩)⟩
    rintro _ H1 ⟨q, as, rfl, sH, hq, hl, hE⟩
    refine ⟨fun σ' H' => ∃ q as, σ' = [some v, some (.ref q)] ∧ Same H H' ∧ H' q = some (.lst (as.map V.ref)) ∧ as.length = 13 ∧ Ers cl v H' 0 as, ?_, ?_⟩
    · refine ⟨_, rfl, ⟨_, rfl, _, rfl, fun a9 d9 n9 m9 e9 => ⟨_, rfl, _, rfl, fun a10 d10 n10 m10 e10 => ⟨_, rfl, _, rfl, fun a11 d11 n11 m11 e11 => ⟨_, rfl, _, rfl, fun a12 d12 n12 m12 e12 => ⟨(by show 4 ≤ sizeLine; decide), fun p np => ?_⟩⟩⟩⟩⟩⟩
      have s9 := same_mk (C := cl 9) (f := "value") (v := v) n9 m9
      have s10 := same_mk (C := cl 10) (f := "index") (v := v) n10 m10
      have s11 := same_mk (C := cl 11) (f := "value") (v := v) n11 m11
      have s12 := same_mk (C := cl 12) (f := "value") (v := v) n12 m12
      have sp := Same.new (o := .lst [.ref a9, .ref a10, .ref a11, .ref a12]) np
      refine ⟨q, p, _, _, rfl, rfl, (s9.trans (s10.trans (s11.trans (s12.trans sp)))) _ _ hq, upd_same, (by rw [List.length_map, hl]; show 9 + 4 ≤ sizeLine; decide), fun r nr => ?_⟩
      have sr := Same.new (o := .lst (as.map V.ref ++ [.ref a9, .ref a10, .ref a11, .ref a12])) nr
      exact ⟨r, as ++ [a9, a10, a11, a12], rfl, sH.trans (s9.trans (s10.trans (s11.trans (s12.trans (sp.trans sr))))), (by rw [List.map_append]; exact upd_same), (by rw [List.length_append, hl]; rfl), Ers.app (m := 9) (hE.ex (s9.trans (s10.trans (s11.trans (s12.trans (sp.trans sr)))))) (by rw [hl]) (by exact ⟨ErAt.ex (er_mk (f := "value") e9) (s10.trans (s11.trans (s12.trans (sp.trans sr)))), ⟨ErAt.ex (er_mk (f := "index") e10) (s11.trans (s12.trans (sp.trans sr))), ⟨ErAt.ex (er_mk (f := "value") e11) (s12.trans (sp.trans sr)), ⟨ErAt.ex (er_mk (f := "value") e12) (sp.trans sr), trivial⟩⟩⟩⟩)⟩
    rintro _ H1 ⟨q, as, rfl, sH, hq, hl, hE⟩
    refine ⟨fun σ' H' => ∃ q as, σ' = [some v, some (.ref q)] ∧ Same H H' ∧ H' q = some (.lst (as.map V.ref)) ∧ as.length = 18 ∧ Ers cl v H' 0 as, ?_, ?_⟩
    · refine ⟨_, rfl, ⟨_, rfl, _, rfl, fun a13 d13 n13 m13 e13 => ⟨_, rfl, _, rfl, fun a14 d14 n14 m14 e14 => ⟨_, rfl, _, rfl, fun a15 d15 n15 m15 e15 => ⟨_, rfl, _, rfl, fun a16 d16 n16 m16 e16 => fun a17 n17 => ⟨(by show 5 ≤ sizeLine; decide), fun p np => ?_⟩⟩⟩⟩⟩⟩
      have s13 := same_mk (C := cl 13) (f := "value") (v := v) n13 m13
      have s14 := same_mk (C := cl 14) (f := "value") (v := v) n14 m14
      have s15 := same_mk (C := cl 15) (f := "index") (v := v) n15 m15
      have s16 := same_mk (C := cl 16) (f := "name") (v := v) n16 m16
      have s17 := Same.new (o := exo a17 (cl 17) none) n17
      have sp := Same.new (o := .lst [.ref a13, .ref a14, .ref a15, .ref a16, .ref a17]) np
      refine ⟨q, p, _, _, rfl, rfl, (s13.trans (s14.trans (s15.trans (s16.trans (s17.trans sp))))) _ _ hq, upd_same, (by rw [List.length_map, hl]; show 13 + 5 ≤ sizeLine; decide), fun r nr => ?_⟩
      have sr := Same.new (o := .lst (as.map V.ref ++ [.ref a13, .ref a14, .ref a15, .ref a16, .ref a17])) nr
      exact ⟨r, as ++ [a13, a14, a15, a16, a17], rfl, sH.trans (s13.trans (s14.trans (s15.trans (s16.trans (s17.trans (sp.trans sr)))))), (by rw [List.map_append]; exact upd_same), (by rw [List.length_append, hl]; rfl), Ers.app (m := 13) (hE.ex (s13.trans (s14.trans (s15.trans (s16.trans (s17.trans (sp.trans sr))))))) (by rw [hl]) (by exact ⟨ErAt.ex (er_mk (f := "value") e13) (s14.trans (s15.trans (s16.trans (s17.trans (sp.trans sr))))), ⟨ErAt.ex (er_mk (f := "value") e14) (s15.trans (s16.trans (s17.trans (sp.trans sr)))), ⟨ErAt.ex (er_mk (f := "index") e15) (s16.trans (s17.trans (sp.trans sr))), ⟨ErAt.ex (er_mk (f := "name") e16) (s17.trans (sp.trans sr)), ⟨ErAt.ex er_mk0 (sp.trans sr), trivial⟩⟩⟩⟩⟩)⟩
    rintro _ H1 ⟨q, as, rfl, sH, hq, hl, hE⟩
    refine ⟨_, rfl, ⟨_, rfl, _, rfl, fun a18 d18 n18 m18 e18 => ⟨_, rfl, _, rfl, fun a19 d19 n19 m19 e19 => ⟨_, rfl, _, rfl, fun a20 d20 n20 m20 e20 => ⟨_, rfl, _, rfl, fun a21 d21 n21 m21 e21 => ⟨(by show 4 ≤ sizeLine; decide), fun p np => ?_⟩⟩⟩⟩⟩⟩
    have s18 := same_mk (C := cl 18) (f := "index") (v := v) n18 m18
    have s19 := same_mk (C := cl 19) (f := "limit") (v := v) n19 m19
    have s20 := same_mk (C := cl 20) (f := "name") (v := v) n20 m20
    have s21 := same_mk (C := cl 21) (f := "user") (v := v) n21 m21
    have sp := Same.new (o := .lst [.ref a18, .ref a19, .ref a20, .ref a21]) np
    refine ⟨q, p, _, _, rfl, rfl, (s18.trans (s19.trans (s20.trans (s21.trans sp)))) _ _ hq, upd_same, (by rw [List.length_map, hl]; show 18 + 4 ≤ sizeLine; decide), fun r nr => ?_⟩
    have sr := Same.new (o := .lst (as.map V.ref ++ [.ref a18, .ref a19, .ref a20, .ref a21])) nr
    exact k _ r (as ++ [a18, a19, a20, a21]) (sH.trans (s18.trans (s19.trans (s20.trans (s21.trans (sp.trans sr)))))) (by rw [List.map_append]; exact upd_same) (by rw [List.length_append, hl]; rfl) (Ers.app (m := 18) (hE.ex (s18.trans (s19.trans (s20.trans (s21.trans (sp.trans sr)))))) (by rw [hl]) (by exact ⟨ErAt.ex (er_mk (f := "index") e18) (s19.trans (s20.trans (s21.trans (sp.trans sr)))), ⟨ErAt.ex (er_mk (f := "limit") e19) (s20.trans (s21.trans (sp.trans sr))), ⟨ErAt.ex (er_mk (f := "name") e20) (s21.trans (sp.trans sr)), ⟨ErAt.ex (er_mk (f := "user") e21) (sp.trans sr), trivial⟩⟩⟩⟩))
theorem ok_fields {f : Addr} {fd : FuncData} (F : Fun K "_law_fields" "_law_fields" s_law_fields f fd) (S : ErrS P w K mg base cl fi fdi) : FnOk P w K mg base CX0 1 f fd ["_law_made_here"] (spFields cl) := by
  refine F.ok scFields (fun vs H Q E h => ?_) (fun cdv A outer s H vs Q E hr h => ?_)
  · obtain ⟨p, as, v, rfl, _⟩ := h
    rfl
  · obtain ⟨p, as, v, rfl, hp, hl, hE, k⟩ := h
    have ga : ∀ i, i < 22 → ∃ a, as[i]? = some a := fun i hi => ⟨as[i]'(by omega), by simp [hl, hi]⟩
    obtain ⟨a0, g0⟩ := ga 0 (by decide)
    have E0 : ErAt H a0 (cl 0) [("value", v)] := hE.get (i := 0) g0 |> fun z => by rw [Nat.zero_add] at z; exact z
    have x0 : atI (as.map V.ref) 0 = some (.ref a0) := by rw [show ((0 : Int)) = ((0 : Nat) : Int) from rfl, atI_nat]; simp [g0]
    obtain ⟨a1, g1⟩ := ga 1 (by decide)
    have E1 : ErAt H a1 (cl 1) [("part", v)] := hE.get (i := 1) g1 |> fun z => by rw [Nat.zero_add] at z; exact z
    have x1 : atI (as.map V.ref) 1 = some (.ref a1) := by rw [show ((1 : Int)) = ((1 : Nat) : Int) from rfl, atI_nat]; simp [g1]
    obtain ⟨a2, g2⟩ := ga 2 (by decide)
    have E2 : ErAt H a2 (cl 2) [("value", v)] := hE.get (i := 2) g2 |> fun z => by rw [Nat.zero_add] at z; exact z
    have x2 : atI (as.map V.ref) 2 = some (.ref a2) := by rw [show ((2 : Int)) = ((2 : Nat) : Int) from rfl, atI_nat]; simp [g2]
    obtain ⟨a3, g3⟩ := ga 3 (by decide)
    have E3 : ErAt H a3 (cl 3) [("index", v)] := hE.get (i := 3) g3 |> fun z => by rw [Nat.zero_add] at z; exact z
    have x3 : atI (as.map V.ref) 3 = some (.ref a3) := by rw [show ((3 : Int)) = ((3 : Nat) : Int) from rfl, atI_nat]; simp [g3]
    obtain ⟨a4, g4⟩ := ga 4 (by decide)
    have E4 : ErAt H a4 (cl 4) [("value", v)] := hE.get (i := 4) g4 |> fun z => by rw [Nat.zero_add] at z; exact z
    have x4 : atI (as.map V.ref) 4 = some (.ref a4) := by rw [show ((4 : Int)) = ((4 : Nat) : Int) from rfl, atI_nat]; simp [g4]
    obtain ⟨a5, g5⟩ := ga 5 (by decide)
    have E5 : ErAt H a5 (cl 5) [("part", v)] := hE.get (i := 5) g5 |> fun z => by rw [Nat.zero_add] at z; exact z
    have x5 : atI (as.map V.ref) 5 = some (.ref a5) := by rw [show ((5 : Int)) = ((5 : Nat) : Int) from rfl, atI_nat]; simp [g5]
    obtain ⟨a6, g6⟩ := ga 6 (by decide)
    have E6 : ErAt H a6 (cl 6) [("value", v)] := hE.get (i := 6) g6 |> fun z => by rw [Nat.zero_add] at z; exact z
    have x6 : atI (as.map V.ref) 6 = some (.ref a6) := by rw [show ((6 : Int)) = ((6 : Nat) : Int) from rfl, atI_nat]; simp [g6]
    obtain ⟨a7, g7⟩ := ga 7 (by decide)
    have E7 : ErAt H a7 (cl 7) [("value", v)] := hE.get (i := 7) g7 |> fun z => by rw [Nat.zero_add] at z; exact z
    have x7 : atI (as.map V.ref) 7 = some (.ref a7) := by rw [show ((7 : Int)) = ((7 : Nat) : Int) from rfl, atI_nat]; simp [g7]
    obtain ⟨a8, g8⟩ := ga 8 (by decide)
    have E8 : ErAt H a8 (cl 8) [("value", v)] := hE.get (i := 8) g8 |> fun z => by rw [Nat.zero_add] at z; exact z
    have x8 : atI (as.map V.ref) 8 = some (.ref a8) := by rw [show ((8 : Int)) = ((8 : Nat) : Int) from rfl, atI_nat]; simp [g8]
    obtain ⟨a9, g9⟩ := ga 9 (by decide)
    have E9 : ErAt H a9 (cl 9) [("value", v)] := hE.get (i := 9) g9 |> fun z => by rw [Nat.zero_add] at z; exact z
    have x9 : atI (as.map V.ref) 9 = some (.ref a9) := by rw [show ((9 : Int)) = ((9 : Nat) : Int) from rfl, atI_nat]; simp [g9]
    obtain ⟨a10, g10⟩ := ga 10 (by decide)
    have E10 : ErAt H a10 (cl 10) [("index", v)] := hE.get (i := 10) g10 |> fun z => by rw [Nat.zero_add] at z; exact z
    have x10 : atI (as.map V.ref) 10 = some (.ref a10) := by rw [show ((10 : Int)) = ((10 : Nat) : Int) from rfl, atI_nat]; simp [g10]
    obtain ⟨a11, g11⟩ := ga 11 (by decide)
    have E11 : ErAt H a11 (cl 11) [("value", v)] := hE.get (i := 11) g11 |> fun z => by rw [Nat.zero_add] at z; exact z
    have x11 : atI (as.map V.ref) 11 = some (.ref a11) := by rw [show ((11 : Int)) = ((11 : Nat) : Int) from rfl, atI_nat]; simp [g11]
    obtain ⟨a12, g12⟩ := ga 12 (by decide)
    have E12 : ErAt H a12 (cl 12) [("value", v)] := hE.get (i := 12) g12 |> fun z => by rw [Nat.zero_add] at z; exact z
    have x12 : atI (as.map V.ref) 12 = some (.ref a12) := by rw [show ((12 : Int)) = ((12 : Nat) : Int) from rfl, atI_nat]; simp [g12]
    obtain ⟨a13, g13⟩ := ga 13 (by decide)
    have E13 : ErAt H a13 (cl 13) [("value", v)] := hE.get (i := 13) g13 |> fun z => by rw [Nat.zero_add] at z; exact z
    have x13 : atI (as.map V.ref) 13 = some (.ref a13) := by rw [show ((13 : Int)) = ((13 : Nat) : Int) from rfl, atI_nat]; simp [g13]
    obtain ⟨a14, g14⟩ := ga 14 (by decide)
    have E14 : ErAt H a14 (cl 14) [("value", v)] := hE.get (i := 14) g14 |> fun z => by rw [Nat.zero_add] at z; exact z
    have x14 : atI (as.map V.ref) 14 = some (.ref a14) := by rw [show ((14 : Int)) = ((14 : Nat) : Int) from rfl, atI_nat]; simp [g14]
    obtain ⟨a15, g15⟩ := ga 15 (by decide)
    have E15 : ErAt H a15 (cl 15) [("index", v)] := hE.get (i := 15) g15 |> fun z => by rw [Nat.zero_add] at z; exact z
    have x15 : atI (as.map V.ref) 15 = some (.ref a15) := by rw [show ((15 : Int)) = ((15 : Nat) : Int) from rfl, atI_nat]; simp [g15]
    obtain ⟨a16, g16⟩ := ga 16 (by decide)
    have E16 : ErAt H a16 (cl 16) [("name", v)] := hE.get (i := 16) g16 |> fun z => by rw [Nat.zero_add] at z; exact z
    have x16 : atI (as.map V.ref) 16 = some (.ref a16) := by rw [show ((16 : Int)) = ((16 : Nat) : Int) from rfl, atI_nat]; simp [g16]
    obtain ⟨a18, g18⟩ := ga 18 (by decide)
    have E18 : ErAt H a18 (cl 18) [("index", v)] := hE.get (i := 18) g18 |> fun z => by rw [Nat.zero_add] at z; exact z
    have x18 : atI (as.map V.ref) 18 = some (.ref a18) := by rw [show ((18 : Int)) = ((18 : Nat) : Int) from rfl, atI_nat]; simp [g18]
    obtain ⟨a19, g19⟩ := ga 19 (by decide)
    have E19 : ErAt H a19 (cl 19) [("limit", v)] := hE.get (i := 19) g19 |> fun z => by rw [Nat.zero_add] at z; exact z
    have x19 : atI (as.map V.ref) 19 = some (.ref a19) := by rw [show ((19 : Int)) = ((19 : Nat) : Int) from rfl, atI_nat]; simp [g19]
    obtain ⟨a20, g20⟩ := ga 20 (by decide)
    have E20 : ErAt H a20 (cl 20) [("name", v)] := hE.get (i := 20) g20 |> fun z => by rw [Nat.zero_add] at z; exact z
    have x20 : atI (as.map V.ref) 20 = some (.ref a20) := by rw [show ((20 : Int)) = ((20 : Nat) : Int) from rfl, atI_nat]; simp [g20]
    obtain ⟨a21, g21⟩ := ga 21 (by decide)
    have E21 : ErAt H a21 (cl 21) [("user", v)] := hE.get (i := 21) g21 |> fun z => by rw [Nat.zero_add] at z; exact z
    have x21 : atI (as.map V.ref) 21 = some (.ref a21) := by rw [show ((21 : Int)) = ((21 : Nat) : Int) from rfl, atI_nat]; simp [g21]
    refine ⟨_, (Evl.pss_cut (ps_set (i := 1) scFields.nd rfl (Or.inl rfl) (pe_lst (pa_cons (pe_yf (pe_ix ix_list (pv 0) pe_int (fun _ _ => rfl))) (pa_cons (pe_yf (pe_ix ix_list (pv 0) pe_int (fun _ _ => rfl))) (pa_cons (pe_yf (pe_ix ix_list (pv 0) pe_int (fun _ _ => rfl))) (pa_cons (pe_yf (pe_ix ix_list (pv 0) pe_int (fun _ _ => rfl))) (pa_cons (pe_yf (pe_ix ix_list (pv 0) pe_int (fun _ _ => rfl))) (pa_cons (pe_yf (pe_ix ix_list (pv 0) pe_int (fun _ _ => rfl))) (pa_cons (pe_yf (pe_ix ix_list (pv 0) pe_int (fun _ _ => rfl))) pa_nil)))))))))
      (Evl.pss_cut (ps_set (i := 1) scFields.nd rfl (Or.inl rfl) (pe_op op_cat (pv 1) (pe_lst (pa_cons (pe_yf (pe_ix ix_list (pv 0) pe_int (fun _ _ => rfl))) (pa_cons (pe_yf (pe_ix ix_list (pv 0) pe_int (fun _ _ => rfl))) (pa_cons (pe_yf (pe_ix ix_list (pv 0) pe_int (fun _ _ => rfl))) (pa_cons (pe_yf (pe_ix ix_list (pv 0) pe_int (fun _ _ => rfl))) (pa_cons (pe_yf (pe_ix ix_list (pv 0) pe_int (fun _ _ => rfl))) (pa_cons (pe_yf (pe_ix ix_list (pv 0) pe_int (fun _ _ => rfl))) pa_nil)))))))))
      (Evl.pss_cut (ps_set (i := 1) scFields.nd rfl (Or.inl rfl) (pe_op op_cat (pv 1) (pe_lst (pa_cons (pe_yf (pe_ix ix_list (pv 0) pe_int (fun _ _ => rfl))) (pa_cons (pe_yf (pe_ix ix_list (pv 0) pe_int (fun _ _ => rfl))) (pa_cons (pe_yf (pe_ix ix_list (pv 0) pe_int (fun _ _ => rfl))) (pa_cons (pe_yf (pe_ix ix_list (pv 0) pe_int (fun _ _ => rfl))) pa_nil)))))))
      (pss_one (ps_ret (pe_op op_cat (pv 1) (pe_lst (pa_cons (pe_yf (pe_ix ix_list (pv 0) pe_int (fun _ _ => rfl))) (pa_cons (pe_yf (pe_ix ix_list (pv 0) pe_int (fun _ _ => rfl))) (pa_cons (pe_yf (pe_ix ix_list (pv 0) pe_int (fun _ _ => rfl))) (pa_cons (pe_yf (pe_ix ix_list (pv 0) pe_int (fun _ _ => rfl))) pa_nil))))))))))), ?_⟩
    refine ⟨fun σ' H' => ∃ q, σ' = [some (.ref p), some (.ref q)] ∧ Same H H' ∧ H' q = some (.lst (List.replicate 7 v)), ?_, ?_⟩
    · refine ⟨_, rfl, p, _, _, _, rfl, rfl, SqL.of hp, x0, a0, _, _, v, rfl, (S.e 0 rfl).xf, (S.e 0 rfl).noF, E0, (by simp [List.lookup]), _, rfl, p, _, _, _, rfl, rfl, SqL.of hp, x1, a1, _, _, v, rfl, (S.e 1 rfl).xf, (S.e 1 rfl).noF, E1, (by simp [List.lookup]), _, rfl, p, _, _, _, rfl, rfl, SqL.of hp, x2, a2, _, _, v, rfl, (S.e 2 rfl).xf, (S.e 2 rfl).noF, E2, (by simp [List.lookup]), _, rfl, p, _, _, _, rfl, rfl, SqL.of hp, x3, a3, _, _, v, rfl, (S.e 3 rfl).xf, (S.e 3 rfl).noF, E3, (by simp [List.lookup]), _, rfl, p, _, _, _, rfl, rfl, SqL.of hp, x4, a4, _, _, v, rfl, (S.e 4 rfl).xf, (S.e 4 rfl).noF, E4, (by simp [List.lookup]), _, rfl, p, _, _, _, rfl, rfl, SqL.of hp, x5, a5, _, _, v, rfl, (S.e 5 rfl).xf, (S.e 5 rfl).noF, E5, (by simp [List.lookup]), _, rfl, p, _, _, _, rfl, rfl, SqL.of hp, x6, a6, _, _, v, rfl, (S.e 6 rfl).xf, (S.e 6 rfl).noF, E6, (by simp [List.lookup]), (by show 7 ≤ sizeLine; decide), fun z nz => ?_⟩
      exact ⟨z, rfl, Same.new nz, upd_same⟩
    rintro _ H1 ⟨q, rfl, s1, hq⟩
    refine ⟨fun σ' H' => ∃ q, σ' = [some (.ref p), some (.ref q)] ∧ Same H H' ∧ H' q = some (.lst (List.replicate 13 v)), ?_, ?_⟩
    · refine ⟨_, rfl, _, rfl, p, _, _, _, rfl, rfl, SqL.of (s1 _ _ hp), x7, a7, _, _, v, rfl, (S.e 7 rfl).xf, (S.e 7 rfl).noF, E7.ex s1, (by simp [List.lookup]), _, rfl, p, _, _, _, rfl, rfl, SqL.of (s1 _ _ hp), x8, a8, _, _, v, rfl, (S.e 8 rfl).xf, (S.e 8 rfl).noF, E8.ex s1, (by simp [List.lookup]), _, rfl, p, _, _, _, rfl, rfl, SqL.of (s1 _ _ hp), x9, a9, _, _, v, rfl, (S.e 9 rfl).xf, (S.e 9 rfl).noF, E9.ex s1, (by simp [List.lookup]), _, rfl, p, _, _, _, rfl, rfl, SqL.of (s1 _ _ hp), x10, a10, _, _, v, rfl, (S.e 10 rfl).xf, (S.e 10 rfl).noF, E10.ex s1, (by simp [List.lookup]), _, rfl, p, _, _, _, rfl, rfl, SqL.of (s1 _ _ hp), x11, a11, _, _, v, rfl, (S.e 11 rfl).xf, (S.e 11 rfl).noF, E11.ex s1, (by simp [List.lookup]), _, rfl, p, _, _, _, rfl, rfl, SqL.of (s1 _ _ hp), x12, a12, _, _, v, rfl, (S.e 12 rfl).xf, (S.e 12 rfl).noF, E12.ex s1, (by simp [List.lookup]), (by show 6 ≤ sizeLine; decide), fun z nz => ?_⟩
      exact ⟨q, z, _, _, rfl, rfl, Same.new nz _ _ hq, upd_same, (by show 7 + 6 ≤ sizeLine; decide), fun r nr => ⟨r, rfl, (s1.trans (Same.new nz)).trans (Same.new nr), upd_same⟩⟩
    rintro _ H1 ⟨q, rfl, s1, hq⟩
    refine ⟨fun σ' H' => ∃ q, σ' = [some (.ref p), some (.ref q)] ∧ Same H H' ∧ H' q = some (.lst (List.replicate 17 v)), ?_, ?_⟩
    · refine ⟨_, rfl, _, rfl, p, _, _, _, rfl, rfl, SqL.of (s1 _ _ hp), x13, a13, _, _, v, rfl, (S.e 13 rfl).xf, (S.e 13 rfl).noF, E13.ex s1, (by simp [List.lookup]), _, rfl, p, _, _, _, rfl, rfl, SqL.of (s1 _ _ hp), x14, a14, _, _, v, rfl, (S.e 14 rfl).xf, (S.e 14 rfl).noF, E14.ex s1, (by simp [List.lookup]), _, rfl, p, _, _, _, rfl, rfl, SqL.of (s1 _ _ hp), x15, a15, _, _, v, rfl, (S.e 15 rfl).xf, (S.e 15 rfl).noF, E15.ex s1, (by simp [List.lookup]), _, rfl, p, _, _, _, rfl, rfl, SqL.of (s1 _ _ hp), x16, a16, _, _, v, rfl, (S.e 16 rfl).xf, (S.e 16 rfl).noF, E16.ex s1, (by simp [List.lookup]), (by show 4 ≤ sizeLine; decide), fun z nz => ?_⟩
      exact ⟨q, z, _, _, rfl, rfl, Same.new nz _ _ hq, upd_same, (by show 13 + 4 ≤ sizeLine; decide), fun r nr => ⟨r, rfl, (s1.trans (Same.new nz)).trans (Same.new nr), upd_same⟩⟩
    rintro _ H1 ⟨q, rfl, s1, hq⟩
    refine ⟨_, rfl, _, rfl, p, _, _, _, rfl, rfl, SqL.of (s1 _ _ hp), x18, a18, _, _, v, rfl, (S.e 18 rfl).xf, (S.e 18 rfl).noF, E18.ex s1, (by simp [List.lookup]), _, rfl, p, _, _, _, rfl, rfl, SqL.of (s1 _ _ hp), x19, a19, _, _, v, rfl, (S.e 19 rfl).xf, (S.e 19 rfl).noF, E19.ex s1, (by simp [List.lookup]), _, rfl, p, _, _, _, rfl, rfl, SqL.of (s1 _ _ hp), x20, a20, _, _, v, rfl, (S.e 20 rfl).xf, (S.e 20 rfl).noF, E20.ex s1, (by simp [List.lookup]), _, rfl, p, _, _, _, rfl, rfl, SqL.of (s1 _ _ hp), x21, a21, _, _, v, rfl, (S.e 21 rfl).xf, (S.e 21 rfl).noF, E21.ex s1, (by simp [List.lookup]), (by show 4 ≤ sizeLine; decide), fun z nz => ?_⟩
    exact ⟨q, z, _, _, rfl, rfl, Same.new nz _ _ hq, upd_same, (by show 17 + 4 ≤ sizeLine; decide), fun r nr => k _ r ((s1.trans (Same.new nz)).trans (Same.new nr)) upd_same⟩
end
end Fu

namespace Fu
open PySem L2
open PyProof.Rows hiding St
open L2H (RoomH roomH_of)
/-- what is written here: no Ratio, no dict -/
def shN (d : D) : Prop := (∃ i : Int, d = .int i ∧ i.natAbs.log2 < 1920) ∨ (inner d = true ∧ shw d = true ∧ ∀ i, d ≠ .int i)
def rReprN : List V → Hp → VK → Prop := fun xs H Q => ∃ (d : D) (v : V), xs = [v] ∧ At 0 H d v ∧ shN d ∧ Q (.str (txt d)) H
theorem call_reprN {X : Cx} (hg : X.A.guards = some []) (hr : RoomH 2 X.A) : CallR X (.builtin "repr") rReprN := by
  intro pins s σ H xs us Q I r h
  obtain ⟨d, v, rfl, a, sh, q⟩ := h
  obtain ⟨u, rfl, ru⟩ := vals1 r
  have big : ∀ {n : Nat}, n ≤ 1000000 → n ≤ sizeLine := fun h => Nat.le_trans h (by rw [sizeLine_eq]; decide)
  rcases sh with ⟨i, rfl, hi⟩ | ⟨s0, sh, ni⟩
  · obtain rfl : v = .int i := a
    obtain ⟨t, rfl⟩ := ru
    exact PySem.P.repr_of_int hi ⟨.str _, H, I.tok _, ⟨_, rfl⟩, q⟩
  cases d with
  | rat n m => cases s0
  | dic => cases s0
  | int i => exact absurd rfl (ni i)
  | non =>
    obtain rfl : v = .non := a
    obtain rfl : u = Value.none := ru
    exact PySem.P.repr_of_none ⟨.str _, H, I.tok _, ⟨_, rfl⟩, q⟩
  | bl b =>
    obtain rfl : v = .bl b := a
    obtain rfl : u = Value.bool b := ru
    exact PySem.P.repr_of_bool ⟨.str _, H, I.tok _, ⟨_, rfl⟩, q⟩
  | str x =>
    obtain rfl : v = .str x := a
    obtain ⟨t, rfl⟩ := ru
    have sh' : (true && true && decide ((pd (.str x)).depth ≤ 60) && decide ((reprText x).length ≤ 1000000)) = true := sh
    rw [Bool.and_eq_true, decide_eq_true_eq] at sh'
    exact PySem.P.repr_of_str ⟨.str _, H, I.tok _, ⟨_, rfl⟩, q⟩ (big sh'.2)
  | lst l =>
    have sh' : (inner (.lst l) && (pd (.lst l)).showable && decide ((pd (.lst l)).depth ≤ 60) && decide ((txt (.lst l)).length ≤ 1000000)) = true := sh
    rw [Bool.and_eq_true, Bool.and_eq_true, Bool.and_eq_true, decide_eq_true_eq, decide_eq_true_eq] at sh'
    obtain ⟨⟨⟨s1, s2⟩, s3⟩, s4⟩ := sh'
    obtain ⟨as, rd⟩ := At.reads I _ _ _ s1 a ru
    obtain ⟨p, xs, rfl, _, _⟩ := a
    obtain rfl : u = Value.ref p := ru
    rw [← shown_pd _ s1] at q s4
    exact repr_of_reads' rd s2 (PyData.noDict_hsm (inner_dict _ s1)) hg (by have := hr.un; omega) (fun _ _ e => e) (fun h' t tk k => ⟨.str _, H, I.kept k, ⟨_, rfl⟩, q⟩) (big s4)
  | tup l =>
    have sh' : (inner (.tup l) && (pd (.tup l)).showable && decide ((pd (.tup l)).depth ≤ 60) && decide ((txt (.tup l)).length ≤ 1000000)) = true := sh
    rw [Bool.and_eq_true, Bool.and_eq_true, Bool.and_eq_true, decide_eq_true_eq, decide_eq_true_eq] at sh'
    obtain ⟨⟨⟨s1, s2⟩, s3⟩, s4⟩ := sh'
    obtain ⟨as, rd⟩ := At.reads I _ _ _ s1 a ru
    obtain ⟨p, xs, rfl, _, _⟩ := a
    obtain rfl : u = Value.ref p := ru
    rw [← shown_pd _ s1] at q s4
    exact repr_of_reads' rd s2 (PyData.noDict_hsm (inner_dict _ s1)) hg (by have := hr.un; omega) (fun _ _ e => e) (fun h' t tk k => ⟨.str _, H, I.kept k, ⟨_, rfl⟩, q⟩) (big s4)
/-- which word, class and field -/
def word (k : Nat) : Str := ["text", "limit", "name", "user"].getD k ""
def spRaised : Sp := fun vs H Q _ => ∃ (v : V) (k : Nat) (d : D), vs = [v, .int k] ∧ k < 4 ∧ At 0 H d v ∧ shN d ∧ ∀ H' p, Same H H' → H' p = some (.lst [.str (word k), .str (txt d)]) → Q (.ref p) H'
section
variable {P : Program} {w : World} {K : PySem.W.Frag} {mg : Str → Option Value} {base : Heap} {cl fi : Nat → Addr} {fdi : Nat → FuncData}
theorem scRaised : FnScope ["_law_value", "_law_kind", "_law_e"] ["_law_value", "_law_kind"] (defScope sRaised) := ⟨rfl, rfl, rfl, by decide +kernel, rfl, by decide +kernel, by decide +kernel⟩
def ts79 (K : PySem.W.Frag) (cl : Nat → Addr) (wd : Str) (j : Nat) (f : Str) : Addr → Value → Option Addr → TS := fun a cls d => tRet (tLst (tCons (tC (.str wd)) (tCons (tCB rReprN (tCons (tXf a cls d (cl j) f (tVar 2)) tNil)) tNil)))
def tb79 (cl : Nat → Addr) (W : WX) : TS := tSeq (tIfS (tTest (tOp rEq (tVar 1) (tC (.int 0)))) (tRaiseX (cl 10) "index" W (tCons (tVar 0) tNil)) tNext)
  (tSeq (tIfS (tTest (tOp rEq (tVar 1) (tC (.int 1)))) (tRaiseX (cl 19) "limit" W (tCons (tVar 0) tNil)) tNext)
  (tSeq (tIfS (tTest (tOp rEq (tVar 1) (tC (.int 2)))) (tRaiseX (cl 20) "name" W (tCons (tVar 0) tNil)) tNext)
  (tRaiseX (cl 21) "user" W (tCons (tVar 0) tNil))))
theorem ok_raised {f : Addr} {fd : FuncData} (F : Fun K "_law_raised" "_law_raised" sRaised f fd) (B : Bx mg) (S : ErrS P w K mg base cl fi fdi) : FnG P w K mg base CX0 5 f fd ["_law_value", "_law_kind"] spRaised := by
  refine Fun.okG F scRaised (fun vs H Q E h => ?_) (fun cdv A outer s H vs Q E hr h => ?_)
  · obtain ⟨v, k, d, rfl, _⟩ := h
    rfl
  · obtain ⟨v, k, d, rfl, hk, hA, sh, kQ⟩ := h
    have hr2 : Room 2 _ := hr.r.mono (show 2 ≤ 4 by decide)
    have hrH : RoomH 2 _ := (roomH_of hr.r).mono (show 2 ≤ 4 by decide)
    refine ⟨_, pss_one (ps_try_manyAs (n := "_law_e") (i := 2) (tb := tb79 cl) (l := [(.ref (cl 22), ts79 K cl "text" 10 "index"), (.ref (cl 19), ts79 K cl "limit" 19 "limit"), (.ref (cl 20), ts79 K cl "name" 20 "name"), (.ref (cl 21), ts79 K cl "user" 21 "user")])
        (Wout := fun _ _ _ _ => False) rfl rfl scRaised.nd rfl rfl takes0
        (fun W pn xe tk _ => pss_cons (ps_if (pt_cmpR op_eq (pv 1) pe_int (nomark _)) (pss_one (ps_raiseY (x := "InvalidText") (f := "index") rfl (S.e 10 rfl) (S.ok 10 rfl) hr2 (S.b 10 rfl) tk (pa_cons (pv 0) pa_nil))) pss_nil)
          (pss_cons (ps_if (pt_cmpR op_eq (pv 1) pe_int (nomark _)) (pss_one (ps_raiseY (x := "LimitExceeded") (f := "limit") rfl (S.e 19 rfl) (S.ok 19 rfl) hr2 (S.b 19 rfl) tk (pa_cons (pv 0) pa_nil))) pss_nil)
          (pss_cons (ps_if (pt_cmpR op_eq (pv 1) pe_int (nomark _)) (pss_one (ps_raiseY (x := "UnknownName") (f := "name") rfl (S.e 20 rfl) (S.ok 20 rfl) hr2 (S.b 20 rfl) tk (pa_cons (pv 0) pa_nil))) pss_nil)
          (pss_one (ps_raiseY (x := "NothingToUndo") (f := "user") rfl (S.e 21 rfl) (S.ok 21 rfl) hr2 (S.b 21 rfl) tk (pa_cons (pv 0) pa_nil))))))
        (.cons ⟨rfl, by decide, Or.inl (S.g 22 (by decide))⟩ (fun a oe cls d pn hz hf => pss_one (ps_ret (pe_lst (pa_cons pe_str (pa_cons (pe_callB (call_reprN hr.g (RoomH.mark hrH _)) (by rfl) B.repr (by decide +kernel) (pa_cons (pe_xf (n := "index") (S.e 10 rfl).xf (S.e 10 rfl).noF hz hf (pv 2)) pa_nil)) pa_nil)))))
        (.cons ⟨rfl, by decide, Or.inl (S.g 19 (by decide))⟩ (fun a oe cls d pn hz hf => pss_one (ps_ret (pe_lst (pa_cons pe_str (pa_cons (pe_callB (call_reprN hr.g (RoomH.mark hrH _)) (by rfl) B.repr (by decide +kernel) (pa_cons (pe_xf (n := "limit") (S.e 19 rfl).xf (S.e 19 rfl).noF hz hf (pv 2)) pa_nil)) pa_nil)))))
        (.cons ⟨rfl, by decide, Or.inl (S.g 20 (by decide))⟩ (fun a oe cls d pn hz hf => pss_one (ps_ret (pe_lst (pa_cons pe_str (pa_cons (pe_callB (call_reprN hr.g (RoomH.mark hrH _)) (by rfl) B.repr (by decide +kernel) (pa_cons (pe_xf (n := "name") (S.e 20 rfl).xf (S.e 20 rfl).noF hz hf (pv 2)) pa_nil)) pa_nil)))))
        (.cons ⟨rfl, by decide, Or.inl (S.g 21 (by decide))⟩ (fun a oe cls d pn hz hf => pss_one (ps_ret (pe_lst (pa_cons pe_str (pa_cons (pe_callB (call_reprN hr.g (RoomH.mark hrH _)) (by rfl) B.repr (by decide +kernel) (pa_cons (pe_xf (n := "user") (S.e 21 rfl).xf (S.e 21 rfl).noF hz hf (pv 2)) pa_nil)) pa_nil)))))
        .nil))))), ?_⟩
    have fin : ∀ (De : Ends) (j : Nat) (wd g : Str) (dd a : Addr), De.rt = Q → wd = word k → H dd = none → upd H dd (.xd [(g, v)]) a = none →
        ts79 K cl wd j g a (.ref (cl j)) (some dd) De ([some v, some (.int k), none].set 2 (some (.ref a))) (upd H dd (.xd [(g, v)])) := by
      intro De j wd g dd a hD hw hdd ha
      have s1 := Same.new (o := .xd [(g, v)]) hdd
      refine ⟨_, rfl, rfl, rfl, dd, _, v, rfl, upd_same, (by simp [List.lookup]), d, v, rfl, hA.ex s1, sh, (by show 2 ≤ sizeLine; decide), fun p hp => ?_⟩
      show De.rt (.ref p) _
      rw [hD]
      refine kQ _ p (s1.trans (Same.new hp)) ?_
      rw [upd_same, hw]
    match k, hk with
    | 0, _ =>
      refine ⟨_, rfl, rfl, _, rfl, if_true_of rfl ⟨_, rfl, v, rfl, fun dd hdd => ?_⟩⟩
      exact ⟨true, S.m 10 22 (by decide) (.inl rfl), fun _ a ha => fin _ 10 _ _ dd a rfl rfl hdd ha, fun z => Bool.noConfusion z⟩
    | 1, _ =>
      refine ⟨_, rfl, rfl, _, rfl, if_false_of rfl ⟨_, rfl, rfl, _, rfl, if_true_of rfl ⟨_, rfl, v, rfl, fun dd hdd => ?_⟩⟩⟩
      exact ⟨false, S.m 19 22 (by decide) (.inl rfl), fun z => Bool.noConfusion z, fun _ => ⟨true, S.m 19 19 (by decide) (.inr (.inl rfl)), fun _ a ha => fin _ 19 _ _ dd a rfl rfl hdd ha, fun z => Bool.noConfusion z⟩⟩
    | 2, _ =>
      refine ⟨_, rfl, rfl, _, rfl, if_false_of rfl ⟨_, rfl, rfl, _, rfl, if_false_of rfl ⟨_, rfl, rfl, _, rfl, if_true_of rfl ⟨_, rfl, v, rfl, fun dd hdd => ?_⟩⟩⟩⟩
      exact ⟨false, S.m 20 22 (by decide) (.inl rfl), fun z => Bool.noConfusion z, fun _ => ⟨false, S.m 20 19 (by decide) (.inr (.inl rfl)), fun z => Bool.noConfusion z, fun _ => ⟨true, S.m 20 20 (by decide) (.inr (.inr (.inl rfl))), fun _ a ha => fin _ 20 _ _ dd a rfl rfl hdd ha, fun z => Bool.noConfusion z⟩⟩⟩
    | 3, _ =>
      refine ⟨_, rfl, rfl, _, rfl, if_false_of rfl ⟨_, rfl, rfl, _, rfl, if_false_of rfl ⟨_, rfl, rfl, _, rfl, if_false_of rfl ⟨_, rfl, v, rfl, fun dd hdd => ?_⟩⟩⟩⟩
      exact ⟨false, S.m 21 22 (by decide) (.inl rfl), fun z => Bool.noConfusion z, fun _ => ⟨false, S.m 21 19 (by decide) (.inr (.inl rfl)), fun z => Bool.noConfusion z, fun _ => ⟨false, S.m 21 20 (by decide) (.inr (.inr (.inl rfl))), fun z => Bool.noConfusion z, fun _ => ⟨true, S.m 21 21 (by decide) (.inr (.inr (.inr rfl))), fun _ a ha => fin _ 21 _ _ dd a rfl rfl hdd ha, fun z => Bool.noConfusion z⟩⟩⟩⟩
end
end Fu

namespace Fu
open PySem L2
open PyProof.Rows hiding St
open L2H (RoomH roomH_of)
theorem Ats.get {C : Addr} {H : Hp} : ∀ {l : List D} {xs : List V} {i : Nat} {x : V}, Ats C H l xs → xs[i]? = some x → ∃ d, l[i]? = some d ∧ At C H d x
  | [], _, i, x, h, e => by
    cases h
    simp at e
  | d :: l, _, 0, x, h, e => by
    obtain ⟨y, r, rfl, h1, _⟩ := h
    cases e
    exact ⟨d, rfl, h1⟩
  | d :: l, _, i + 1, x, h, e => by
    obtain ⟨y, r, rfl, _, h2⟩ := h
    obtain ⟨d', e', a⟩ := Ats.get (i := i) h2 (by simpa using e)
    exact ⟨d', by simpa using e', a⟩
def turns (L : Int) : Int := if (if 8 < L then (8 : Int) else L) > 1 then (if 8 < L then (8 : Int) else L) else 1
theorem turns_le (L : Int) : turns L ≤ 8 ∧ -(2 ^ 62 : Int) ≤ turns L := by
  unfold turns
  split <;> split <;> omega
/-- the drawn values -/
def vals79 (r : Int) : List D := [.non, .int r, .str "nodes", .tup [.str "a", .int 1], .lst [.int 1], .int (-1), .str ""]
theorem log30 (r : Int) (h0 : 0 ≤ r) (h1 : r < 10 ^ 30) : r.natAbs.log2 < 1920 := by
  have h : r.natAbs < 2 ^ 1920 := by
    have h2 : (10 : Int) ^ 30 ≤ 2 ^ 1920 := by decide +kernel
    omega
  by_cases hz : r.natAbs = 0
  · rw [hz]
    decide
  · exact (Nat.log2_lt hz).mpr h
theorem vals79_ok (r : Int) (h0 : 0 ≤ r) (h1 : r < 10 ^ 30) : ∀ d ∈ vals79 r, shN d := by
  intro d hd
  simp only [vals79, List.mem_cons, List.not_mem_nil, or_false] at hd
  rcases hd with rfl | rfl | rfl | rfl | rfl | rfl | rfl
  · exact .inr ⟨rfl, by decide +kernel, fun i => by simp⟩
  · exact .inl ⟨_, rfl, log30 r h0 h1⟩
  · exact .inr ⟨rfl, by decide +kernel, fun i => by simp⟩
  · exact .inr ⟨rfl, by decide +kernel, fun i => by simp⟩
  · exact .inr ⟨rfl, by decide +kernel, fun i => by simp⟩
  · exact .inl ⟨_, rfl, by decide +kernel⟩
  · exact .inr ⟨rfl, by decide +kernel, fun i => by simp⟩
theorem ok_text (x : String) : PyData.strOk (x : Str) = true := by
  show PyData.strOk (Str.ofString x) = true
  rw [Str.ofString_eq_toList]
  show Array.all (List.map Char.toNat x.toList).toArray (fun n => decide (n < 0x110000)) = true
  rw [← Array.all_toList, List.all_eq_true]
  intro n hn
  obtain ⟨c, _, rfl⟩ := List.mem_map.mp hn
  rw [decide_eq_true_eq]
  have h := c.valid
  rcases h with h | h
  · have h2 : c.toNat < 0xd800 := h
    omega
  · exact h.2
theorem vals79_text (r : Int) : ∀ d ∈ vals79 r, PyData.strOk (txt d) = true := by
  intro d hd
  simp only [vals79, List.mem_cons, List.not_mem_nil, or_false] at hd
  rcases hd with rfl | rfl | rfl | rfl | rfl | rfl | rfl
  · decide +kernel
  · exact ok_text _
  · decide +kernel
  · decide +kernel
  · decide +kernel
  · decide +kernel
  · decide +kernel
theorem dp_bls {K : PySem.W.Frag} {H : Hp} : ∀ l : List Bool, DpAll K H (l.map V.bl) (l.map PyData.bool)
  | [] => .nil
  | b :: l => .cons (.bl b) (dp_bls l)
theorem dp_blL {K : PySem.W.Frag} {H : Hp} {p : Addr} {l : List Bool} (h : H p = some (.lst (l.map V.bl))) : Dp K H (.ref p) (.list (l.map PyData.bool)) := .lst (SqL.of h) (dp_bls l)
theorem eqv_bls (l : List Bool) : PyData.eqv (.list (l.map PyData.bool)) (.list (l.map PyData.bool)) = true := by
  have h : PyData.eqvAll (l.map PyData.bool) (l.map PyData.bool) = true := by
    induction l with
    | nil => simp [PyData.eqvAll]
    | cons b l ih => simp [PyData.eqvAll, PyData.eqv, ih]
  simp [PyData.eqv, h]
def kB (j : Nat) : List Bool := (List.range 22).map fun o => j == o
def kB' (n j : Nat) : List Bool := (List.range n).map fun o : Nat => decide (V.int (j : Int) = V.int (0 + (o : Int)))
theorem kB_eq : ∀ j, j < 22 → kB' 22 j = kB j := by decide +kernel
theorem kB_sh : ∀ j, j < 23 → SeqAt.shaped (.list ((kB j).map PyData.bool)) = true := by decide +kernel
theorem kindsL_eq (j : Nat) : kindsL 22 j = (kB j).map V.bl := by
  unfold kindsL kB
  rw [List.map_map]
  rfl
theorem kB22 : kB 22 = List.replicate 22 false := by decide +kernel
def bB (i : Nat) : List Bool := [decide (i < 17), decide (i < 17), i == 17 || i == 18, i == 19, i == 20 || i == 21, i == 20]
def dB (i : Nat) : List Bool := [decide ((i : Int) < 17), decide ((i : Int) < 17), inV (.int (i : Int)) [.int 17, .int 18], decide (V.int (i : Int) = V.int 19), inV (.int (i : Int)) [.int 20, .int 21], decide (V.int (i : Int) = V.int 20)]
theorem dB_eq : ∀ i, i < 22 → dB i = bB i := by decide +kernel
theorem bB_sh : ∀ i, i < 22 → SeqAt.shaped (.list ((bB i).map PyData.bool)) = true := by decide +kernel
def strL (n : Nat) (x : Str) : PyData := .list (List.replicate n (.str x))
theorem dp_strs {K : PySem.W.Frag} {H : Hp} {x : Str} : ∀ n : Nat, DpAll K H (List.replicate n (.str x)) (List.replicate n (.str x))
  | 0 => .nil
  | n + 1 => .cons (.str x) (dp_strs n)
theorem strs_eq (x : Str) : PyData.eqv (strL 21 x) (strL 21 x) = true := by simp [strL, PyData.eqv, PyData.eqvAll, List.replicate]
theorem strs_sh {x : Str} (h : PyData.strOk x = true) : SeqAt.shaped (strL 21 x) = true := by
  have e : SeqAt.shaped (strL 21 x) = (PyData.canLay0 (strL 21 x) && decide ((strL 21 x).depth ≤ 64)) := rfl
  rw [e]
  simp [strL, PyData.canLay0, PyData.canLayAll0, List.replicate, h, PyData.depth, PyData.depthAll]
def two (x y : Str) : PyData := .list [.str x, .str y]
theorem two_eq (x y : Str) : PyData.eqv (two x y) (two x y) = true := by simp [two, PyData.eqv, PyData.eqvAll]
theorem two_sh {x y : Str} (h1 : PyData.strOk x = true) (h : PyData.strOk y = true) : SeqAt.shaped (two x y) = true := by
  have e : SeqAt.shaped (two x y) = (PyData.canLay0 (two x y) && decide ((two x y).depth ≤ 64)) := rfl
  rw [e]
  simp [two, PyData.canLay0, PyData.canLayAll0, h1, h, PyData.depth, PyData.depthAll]
theorem dp_two {K : PySem.W.Frag} {H : Hp} {p : Addr} {x y : Str} (h : H p = some (.lst [.str x, .str y])) : Dp K H (.ref p) (two x y) := .lst (SqL.of h) (.cons (.str _) (.cons (.str _) .nil))
def spLaw (K : PySem.W.Frag) : Sp := fun vs H Q _ => ∃ (a : Addr) (ns : List Int), vs = [.ref a] ∧ SqL K H a (ns.map V.int) ∧ ns.length ≤ 63 ∧ ∀ H', Q (.bl true) H'
section
variable {P : Program} {w : World} {K : PySem.W.Frag} {mg : Str → Option Value} {base : Heap} {cl fi : Nat → Addr} {fdi : Nat → FuncData}
abbrev nLaw : List Str := ["_law_script", "_law_k", "_law_pool_here", "_law_value", "_law_made_here", "_law_at", "_law_error", "_law_due", "_law_other", "_law_field"]
theorem scLaw : FnScope nLaw ["_law_script"] (defScope sLaw) := ⟨rfl, rfl, rfl, by decide +kernel, rfl, by decide +kernel, by decide +kernel⟩
theorem ok_law {f fp ft fk fb fm ff fr : Addr} {fd fdp fdt fdk fdb fdm fdf fdr : FuncData} (F : Fun K "law" "law" sLaw f fd) (B : Bx mg) (S : ErrS P w K mg base cl fi fdi)
    (Gp : Def P w K mg base CX0 1 "_law_pool" ["_law_script", "_law_k"] (spPool K) fp fdp) (Gt : Def P w K mg base CX0 1 "_law_take" ["_law_pool_here", "_law_many"] spTake ft fdt)
    (Gk : Def P w K mg base CX0 1 "_law_kinds" ["_law_e"] (spKinds cl) fk fdk) (Gb : Def P w K mg base CX0 1 "_law_bases" ["_law_e"] (spBases cl) fb fdb)
    (Gm : Def P w K mg base CX0 3 "_law_made" ["_law_value"] (spMade cl) fm fdm) (Gf : Def P w K mg base CX0 1 "_law_fields" ["_law_made_here"] (spFields cl) ff fdf)
    (Gr : FnG P w K mg base CX0 5 fr fdr ["_law_value", "_law_kind"] spRaised) (gr : mg "_law_raised" = some (.ref fr)) (kr : PySem.W.keepIn K (.ref fr) = true) (br : Binds K fdr ["_law_value", "_law_kind"] []) :
    FnG P w K mg base CX0 7 f fd ["_law_script"] (spLaw K) := by
  refine Fun.okG F scLaw (fun vs H Q E h => ?_) (fun cdv A outer s H vs Q E hr h => ?_)
  · obtain ⟨a, ns, rfl, _⟩ := h
    rfl
  · obtain ⟨a, ns, rfl, hS, hn, k⟩ := h
    have hr1 : Room 1 _ := hr.r.mono (show 1 ≤ 6 by decide)
    have hr3 : Room 3 _ := hr.r.mono (show 3 ≤ 6 by decide)
    have hr5 : RoomG 5 _ := hr.mono (show 5 ≤ 6 by decide)
    have hrH : RoomH 2 _ := (roomH_of hr.r).mono (show 2 ≤ 6 by decide)
    refine ⟨_, PSs.nox (pss_cons (ps_for PassesOwn.never rfl
        (pi_range1 rfl B.range (pa_cons (pe_callB (call_max2 rfl) (by rfl) B.max (by decide +kernel) (pa_cons pe_int (pa_cons (pe_callB (call_min2 rfl) (by rfl) B.min (by decide +kernel) (pa_cons (pe_callB call_len_seq (by rfl) B.len PySem.boot_len (pa_cons (pv 0) pa_nil)) (pa_cons pe_int pa_nil))) pa_nil))) pa_nil))
        (pg_name (i := 1) scLaw.nd rfl (Or.inl rfl))
        (Evl.pss_cut (ps_set (i := 2) scLaw.nd rfl (Or.inl rfl) (pe_def Gp hr1 (pa_cons (pv 0) (pa_cons (pv 1) pa_nil))))
        (Evl.pss_cut (ps_set (i := 3) scLaw.nd rfl (Or.inl rfl) (pe_ix ix_list (pe_lst (pa_cons pe_non (pa_cons (pe_def Gt hr1 (pa_cons (pv 2) (pa_cons (pe_op op_pow pe_int pe_int) pa_nil))) (pa_cons pe_str (pa_cons (pe_tup (pa_cons pe_str (pa_cons pe_int pa_nil)))
          (pa_cons (pe_lst (pa_cons pe_int pa_nil)) (pa_cons (pe_un un_neg pe_int) (pa_cons pe_str pa_nil)))))))) (pe_def Gt hr1 (pa_cons (pv 2) (pa_cons pe_int pa_nil))) (fun _ _ => rfl)))
        (Evl.pss_cut (ps_set (i := 4) scLaw.nd rfl (Or.inl rfl) (pe_def Gm hr3 (pa_cons (pv 3) pa_nil)))
        (Evl.pss_cut (ps_for PassesOwn.never rfl (pi_enum rfl B.enumerate (pa_cons (pv 4) pa_nil)) (pg_tup rfl (pgs_cons (pg_name (i := 5) scLaw.nd rfl (Or.inr rfl)) (pgs_cons (pg_name (i := 6) scLaw.nd rfl (Or.inl rfl)) pgs_nil)))
          (Evl.pss_cut (ps_if (pt_cmpR (op_neD hr.r.units) (pe_def Gk hr1 (pa_cons (pv 6) pa_nil))
              (pe_lc (own := [("_law_other", 8)]) (g := gName 8) (tt := tYes) rfl scLaw.nd (pi_range1 rfl B.range (pa_cons pe_int pa_nil)) (blkOk_by (N := nLaw) (sc := defScope sLaw) (by decide +kernel)) (fun _ _ _ _ _ => pg_name (i := 8) scLaw.nd rfl (Or.inl rfl)) (fun _ _ _ _ _ => pts_nil)
                (fun _ _ _ _ _ => pe_cmpR op_eq (pv 5) (pv 8) (nomark _))) (nomark _)) (pss_one (ps_ret pe_bl)) pss_nil)
          (Evl.pss_cut (ps_set (i := 7) scLaw.nd rfl (Or.inl rfl) (pe_lst (pa_cons (pe_cmpR op_lt (pv 5) pe_int (nomark _)) (pa_cons (pe_cmpR op_lt (pv 5) pe_int (nomark _)) (pa_cons (pe_cmpR op_in_seq (pv 5) (pe_lst (pa_cons pe_int (pa_cons pe_int pa_nil))) (by rfl))
            (pa_cons (pe_cmpR op_eq (pv 5) pe_int (nomark _)) (pa_cons (pe_cmpR op_in_seq (pv 5) (pe_lst (pa_cons pe_int (pa_cons pe_int pa_nil))) (by rfl)) (pa_cons (pe_cmpR op_eq (pv 5) pe_int (nomark _)) pa_nil))))))))
          (pss_one (ps_if (pt_cmpR (op_neD hr.r.units) (pe_def Gb hr1 (pa_cons (pv 6) pa_nil)) (pv 7) (nomark _)) (pss_one (ps_ret pe_bl)) pss_nil)))))
        (Evl.pss_cut (ps_if (pt_cmpR (op_neD hr.r.units)
            (pe_lc (own := [("_law_field", 9)]) (g := gName 9) (tt := tYes) rfl scLaw.nd (pi_list (pe_def Gf hr1 (pa_cons (pv 4) pa_nil))) (blkOk_by (N := nLaw) (sc := defScope sLaw) (by decide +kernel)) (fun _ _ _ _ _ => pg_name (i := 9) scLaw.nd rfl (Or.inl rfl)) (fun _ _ _ _ _ => pts_nil)
              (fun _ _ _ _ _ => pe_callB (call_reprN hr.g hrH) (by rfl) B.repr (by decide +kernel) (pa_cons (pv 9) pa_nil)))
            (pe_op op_rep (pe_lst (pa_cons (pe_callB (call_reprN hr.g hrH) (by rfl) B.repr (by decide +kernel) (pa_cons (pv 3) pa_nil)) pa_nil)) pe_int) (nomark _)) (pss_one (ps_ret pe_bl)) pss_nil)
        (Evl.pss_cut (ps_if (PW.pt (pw_or (pt_cmpR (op_neD hr.r.units) (pe_def Gk hr1 (pa_cons (pe_mkY0 PySem.F.excBase_ValueError S.n22 (S.g 22 (by decide)) S.k22) pa_nil)) (pe_op op_rep (pe_lst (pa_cons pe_bl pa_nil)) pe_int) (nomark _))
            (pw_or1 (pt_not (pt_val (pe_callB call_isY (by rfl) B.isi (by decide +kernel) (pa_cons (pe_mkY0 PySem.F.excBase_ValueError S.n22 (S.g 22 (by decide)) S.k22) (pa_cons (pe_bltn (v := .ty "ValueError") (by rfl) B.ve (by decide +kernel) rfl) pa_nil)))))))) (pss_one (ps_ret pe_bl)) pss_nil)
        (Evl.pss_cut (ps_if (PW.pt (pw_or (pt_cmpR (op_neD hr.r.units) (pe_callG Gr hr5 gr kr br (pa_cons (pv 3) (pa_cons pe_int pa_nil))) (pe_lst (pa_cons pe_str (pa_cons (pe_callB (call_reprN hr.g hrH) (by rfl) B.repr (by decide +kernel) (pa_cons (pv 3) pa_nil)) pa_nil))) (nomark _))
            (pw_or1 (pt_cmpR (op_neD hr.r.units) (pe_callG Gr hr5 gr kr br (pa_cons (pv 3) (pa_cons pe_int pa_nil))) (pe_lst (pa_cons pe_str (pa_cons (pe_callB (call_reprN hr.g hrH) (by rfl) B.repr (by decide +kernel) (pa_cons (pv 3) pa_nil)) pa_nil))) (nomark _))))) (pss_one (ps_ret pe_bl)) pss_nil)
        (pss_one (ps_if (PW.pt (pw_or (pt_cmpR (op_neD hr.r.units) (pe_callG Gr hr5 gr kr br (pa_cons (pv 3) (pa_cons pe_int pa_nil))) (pe_lst (pa_cons pe_str (pa_cons (pe_callB (call_reprN hr.g hrH) (by rfl) B.repr (by decide +kernel) (pa_cons (pv 3) pa_nil)) pa_nil))) (nomark _))
            (pw_or1 (pt_cmpR (op_neD hr.r.units) (pe_callG Gr hr5 gr kr br (pa_cons (pv 3) (pa_cons pe_int pa_nil))) (pe_lst (pa_cons pe_str (pa_cons (pe_callB (call_reprN hr.g hrH) (by rfl) B.repr (by decide +kernel) (pa_cons (pv 3) pa_nil)) pa_nil))) (nomark _))))) (pss_one (ps_ret pe_bl)) pss_nil)))))))))
      ) (pss_one (ps_ret pe_bl))), ?_⟩
    refine ⟨_, rfl, a, _, rfl, .inl hS, _, _, rfl, _, _, rfl, _, rfl, ?_⟩
    have hJ := turns_le (List.map V.int ns).length
    refine ⟨hJ.2, (show turns (List.map V.int ns).length < 2 ^ 62 by omega), ?_⟩
    refine for_range (lo := 0) (n := (turns (List.map V.int ns).length).toNat) (fun i σ H' => Same H H' ∧ ∃ s1 s2 s3 s4 s5 s6 s7 s8 s9, σ = [some (.ref a), s1, s2, s3, s4, s5, s6, s7, s8, s9]) ⟨Same.refl H, _, _, _, _, _, _, _, _, _, rfl⟩ ?_ ?_
    · rintro i σ H1 hi ⟨sm, s1, s2, s3, s4, s5, s6, s7, s8, s9, rfl⟩
      rw [Int.zero_add]
      refine ⟨fun σ' H' => ∃ pl x y, σ' = [some (.ref a), some (.int i), some (.ref pl), s3, s4, s5, s6, s7, s8, s9] ∧ Same H1 H' ∧ H1 pl = none ∧ H' pl = some (.lst [.int x, .int y]) ∧ 0 ≤ x ∧ 0 ≤ y, ?_, ?_⟩
      · refine ⟨_, rfl, _, rfl, a, ns, i, rfl, sm.seq hS, by omega, fun p x y np hx hy => ⟨p, x, y, rfl, Same.new np, np, upd_same, hx, hy⟩⟩
      rintro _ H2 ⟨pl, x, y, rfl, e2, np, hp, hx, hy⟩
      refine ⟨fun σ' H' => ∃ v d, σ' = [some (.ref a), some (.int i), some (.ref pl), some v, s4, s5, s6, s7, s8, s9] ∧ Same H1 H' ∧ At 0 H' d v ∧ shN d ∧ PyData.strOk (txt d) = true, ?_, ?_⟩
      · refine ⟨_, rfl, _, _, rfl, rfl, ⟨by decide, by decide, by decide⟩, pl, x, y, _, rfl, hp, hx, hy, by decide, by decide +kernel, fun x' y' r hx' hy' hr0 hr1 => ?_⟩
        refine ⟨(by show 2 ≤ sizeLine; decide), fun q1 n1 => ⟨(by show 1 ≤ sizeLine; decide), fun q2 n2 => ⟨_, rfl, (by show 7 ≤ sizeLine; decide), fun ql nl => ?_⟩⟩⟩
        have hpl : upd (upd (upd (upd H2 pl (.lst [.int x', .int y'])) q1 (.tup [.str "a", .int 1])) q2 (.lst [.int 1])) ql (.lst [.non, .int r, .str "nodes", .ref q1, .ref q2, .int (-1), .str ""]) pl = some (.lst [.int x', .int y']) := Same.new nl _ _ (Same.new n2 _ _ (Same.new n1 _ _ upd_same))
        refine ⟨_, rfl, pl, x', y', 7, rfl, hpl, hx', hy', by decide, by decide, fun x2 y2 r2 hx2 hy2 hr20 hr21 => ?_⟩
        have m0 : Same H1 (upd H2 pl (.lst [.int x', .int y'])) := fun b o h => by
          rw [upd_ne (ne_of_none h np)]
          exact e2 b o h
        have m1 := ((m0.trans (Same.new (o := .tup [.str "a", .int 1]) n1)).trans (Same.new (o := .lst [.int 1]) n2)).trans (Same.new (o := .lst [.non, .int r, .str "nodes", .ref q1, .ref q2, .int (-1), .str ""]) nl)
        have nq1 : q1 ≠ pl := fun z => by
          rw [z, upd_same] at n1
          cases n1
        have nq2 : q2 ≠ pl := fun z => by
          rw [z, Same.new n1 _ _ upd_same] at n2
          cases n2
        have nql : ql ≠ pl := fun z => by
          rw [z, Same.new n2 _ _ (Same.new n1 _ _ upd_same)] at nl
          cases nl
        obtain ⟨j, rfl⟩ : ∃ j : Nat, r2 = j := ⟨r2.toNat, by omega⟩
        have hj : j < 7 := by omega
        have h3 : Ats 0 (upd (upd (upd (upd (upd H2 pl (.lst [.int x', .int y'])) q1 (.tup [.str "a", .int 1])) q2 (.lst [.int 1])) ql (.lst [.non, .int r, .str "nodes", .ref q1, .ref q2, .int (-1), .str ""])) pl (.lst [.int x2, .int y2])) (vals79 r) [.non, .int r, .str "nodes", .ref q1, .ref q2, .int (-1), .str ""] :=
          ⟨_, _, rfl, rfl, _, _, rfl, rfl, _, _, rfl, rfl, _, _, rfl, ⟨q1, _, rfl, (by rw [upd_ne nq1]; exact Same.new nl _ _ (Same.new n2 _ _ upd_same)), _, _, rfl, rfl, _, _, rfl, rfl, rfl⟩, _, _, rfl, ⟨q2, _, rfl, (by rw [upd_ne nq2]; exact Same.new nl _ _ upd_same), _, _, rfl, rfl, rfl⟩, _, _, rfl, rfl, _, _, rfl, rfl, rfl⟩
        have hl7 : j < [V.non, .int r, .str "nodes", .ref q1, .ref q2, .int (-1), .str ""].length := hj
        obtain ⟨d, hd, hA⟩ := Ats.get (i := j) (x := [V.non, .int r, .str "nodes", .ref q1, .ref q2, .int (-1), .str ""][j]'hl7) h3 (by simp)
        refine ⟨ql, _, _, _, rfl, rfl, SqL.of (by rw [upd_ne nql]; exact upd_same), ?_, _, d, rfl, ?_, hA, vals79_ok r hr0 hr1 d (List.mem_of_getElem? hd), vals79_text r d (List.mem_of_getElem? hd)⟩
        · rw [atI_nat]
          simp
        · intro b o h
          rw [upd_ne (ne_of_none h np)]
          exact m1 b o h
      rintro _ H3 ⟨v, d, rfl, e3, hA, sh, ok⟩
      refine ⟨fun σ' H' => ∃ p as, σ' = [some (.ref a), some (.int i), some (.ref pl), some v, some (.ref p), s5, s6, s7, s8, s9] ∧ Same H3 H' ∧ H' p = some (.lst (as.map V.ref)) ∧ as.length = 22 ∧ Ers cl v H' 0 as, ?_, ?_⟩
      · exact ⟨_, rfl, v, rfl, fun H' p as s' h1 h2 h3 => ⟨p, as, rfl, s', h1, h2, h3⟩⟩
      rintro _ H4 ⟨p, as, rfl, e4, hp4, hl, hE⟩
      have hA4 := hA.ex e4
      refine ⟨fun σ' H' => Same H4 H' ∧ ∃ s5 s6 s7 s8 s9, σ' = [some (.ref a), some (.int i), some (.ref pl), some v, some (.ref p), s5, s6, s7, s8, s9], ?_, ?_⟩
      · refine ⟨_, rfl, p, _, rfl, SqL.of hp4, ?_⟩
        refine for_it (walk_enum (xs := as.map V.ref)) (fun j σ' H' => Same H4 H' ∧ ∃ s5 s6 s7 s8 s9, σ' = [some (.ref a), some (.int i), some (.ref pl), some v, some (.ref p), s5, s6, s7, s8, s9]) ⟨Same.refl _, _, _, _, _, _, rfl⟩ (fun j σ' H' _ h => SqL.of (h.1 _ _ hp4)) ?_ (fun _ _ h => h)
        rintro j z _ H5 H6 hj ⟨e5, t5, t6, t7, t8, t9, rfl⟩ ⟨T, x1, x2, rfl, nT, rfl, ex1, ex2⟩
        cases ex1
        have hj22 : j < 22 := by rw [List.length_map, hl] at hj; exact hj
        obtain ⟨ae, hae⟩ : ∃ ae, as[j]? = some ae := ⟨as[j]'(by omega), by simp [hl, hj22]⟩
        have ex2 : (as.map V.ref)[j]? = some x2 := ex2
        rw [List.getElem?_map, hae] at ex2
        cases ex2
        have eT := e5.trans (Same.new (o := .tup [.int (j : Nat), .ref ae]) nT)
        have hEj := hE.get hae
        rw [Nat.zero_add] at hEj
        refine ⟨T, _, rfl, SqT.of upd_same, rfl, _, _, rfl, _, _, rfl, rfl, ?_⟩
        revert eT
        generalize upd H5 T (.tup [.int (j : Nat), .ref ae]) = HT
        intro eT
        refine ⟨fun σ' H' => Same H4 H' ∧ ∃ s7 s8 s9, σ' = [some (.ref a), some (.int i), some (.ref pl), some v, some (.ref p), some (.int (j : Nat)), some (.ref ae), s7, s8, s9], ?_, ?_⟩
        · refine ⟨_, rfl, ae, j, _, rfl, by omega, hEj.ex eT, fun H7 q7 e7 h7 => ?_⟩
          refine ⟨_, rfl, (by decide), (by decide), fun Dn nDn => ?_⟩
          refine lc_range (lo := 0) (n := 22) (fun m Hm => Same H7 Hm ∧ Hm Dn = some (.lst ((kB' m j).map V.bl))) ⟨Same.new nDn, upd_same⟩ ?_ ?_
          · rintro m Hm hm ⟨eM, hD⟩
            refine ⟨rfl, ?_⟩
            unfold tYes
            show (if true = true then _ else _)
            refine iteT ?_
            refine ⟨_, rfl, _, rfl, rfl, _, hD, ?_, ?_, ?_⟩
            · rw [List.length_map]
              show (List.map _ (List.range m)).length < sizeLine
              rw [List.length_map, List.length_range]
              exact Nat.lt_trans hm (by decide)
            · intro b o h
              rw [upd_ne (ne_of_none h nDn)]
              exact eM _ _ h
            · rw [upd_same]
              congr 2
              show _ = List.map V.bl (List.map _ (List.range (m + 1)))
              rw [List.range_succ, List.map_append, List.map_append]
              rfl
          · rintro Hm ⟨eM, hD⟩
            rw [kB_eq j hj22] at hD
            have h7' := eM _ _ h7
            rw [kindsL_eq] at h7'
            refine ⟨_, _, dp_blL h7', dp_blL hD, kB_sh j (by omega), kB_sh j (by omega), ?_⟩
            rw [eqv_bls]
            exact ⟨_, rfl, iteF ⟨(eT.trans e7).trans eM, _, _, _, rfl⟩⟩
        rintro _ H7 ⟨e7, u7, u8, u9, rfl⟩
        refine ⟨fun σ' H' => Same H4 H' ∧ ∃ q s8 s9, σ' = [some (.ref a), some (.int i), some (.ref pl), some v, some (.ref p), some (.int (j : Nat)), some (.ref ae), some (.ref q), s8, s9] ∧ H' q = some (.lst ((dB j).map V.bl)), ?_, ?_⟩
        · refine ⟨_, rfl, _, _, rfl, rfl, _, rfl, _, _, rfl, rfl, _, rfl, (by show 2 ≤ sizeLine; decide), fun z1 n1 => ⟨z1, _, rfl, .inl (SqL.of upd_same), rfl, rfl, _, rfl, rfl, _, rfl, (by show 2 ≤ sizeLine; decide), fun z2 n2 => ⟨z2, _, rfl, .inl (SqL.of upd_same), rfl, rfl, _, rfl, rfl, (by show 6 ≤ sizeLine; decide), fun q nq => ?_⟩⟩⟩
          exact ⟨((e7.trans (Same.new n1)).trans (Same.new n2)).trans (Same.new nq), q, _, _, rfl, upd_same⟩
        rintro _ H8 ⟨e8, q, u8, u9, rfl, hq⟩
        refine ⟨_, rfl, ae, j, _, rfl, hj22, hEj.ex e8, fun H9 q9 e9 h9 => ⟨_, rfl, ?_⟩⟩
        have hq9 := e9 _ _ hq
        rw [dB_eq j hj22] at hq9
        refine ⟨.list ((bB j).map PyData.bool), _, dp_blL (l := bB j) h9, dp_blL hq9, bB_sh j hj22, bB_sh j hj22, ?_⟩
        rw [eqv_bls]
        exact ⟨_, rfl, iteF ⟨e8.trans e9, _, _, _, _, _, rfl⟩⟩
      rintro _ H5 ⟨e5, s5, s6, s7, s8, s9, rfl⟩
      refine ⟨fun σ' H' => Same H4 H' ∧ ∃ s5 s6 s7 s8 s9, σ' = [some (.ref a), some (.int i), some (.ref pl), some v, some (.ref p), s5, s6, s7, s8, s9], ?_, ?_⟩
      · refine ⟨_, rfl, p, as, v, rfl, e5 _ _ hp4, hl, hE.ex e5, fun H6 q6 e6 h6 => ⟨q6, rfl, ⟨_, SqL.of h6⟩, fun Dn nDn => ?_⟩⟩
        refine lc_list (xs := List.replicate 21 v) (fun m Hm => Same H6 Hm ∧ Hm Dn = some (.lst (List.replicate m (.str (txt d))))) ⟨Same.new nDn, upd_same⟩ (fun m Hm _ h => SqL.of (h.1 _ _ h6)) ?_ ?_
        · rintro m y Hm hy ⟨eM, hD⟩
          have hm : m < 21 := by
            have := (List.getElem?_eq_some_iff.mp hy).1
            rw [List.length_replicate] at this
            exact this
          obtain rfl : v = y := by
            rw [List.getElem?_replicate, if_pos hm] at hy
            exact Option.some.inj hy
          refine ⟨rfl, ?_⟩
          unfold tYes
          show (if true = true then _ else _)
          refine iteT ?_
          refine ⟨_, rfl, d, v, rfl, hA4.ex ((e5.trans e6).trans eM), sh, _, hD, ?_, ?_, ?_⟩
          · rw [List.length_replicate]
            exact Nat.lt_trans hm (by decide)
          · intro b o h
            rw [upd_ne (ne_of_none h nDn)]
            exact eM _ _ h
          · rw [upd_same, ← List.replicate_succ']
        · rintro Hm ⟨eM, hD⟩
          rw [List.length_replicate] at hD
          refine ⟨_, rfl, d, v, rfl, hA4.ex ((e5.trans e6).trans eM), sh, (by show 1 ≤ sizeLine; decide), fun z1 n1 => ⟨z1, 21, _, rfl, rfl, upd_same, by decide, by decide, (by show 1 * 21 ≤ sizeLine; decide), fun z2 n2 => ?_⟩⟩
          have g1 := Same.new (o := .lst [.str (txt d)]) n1
          have g2 := Same.new (o := .lst (List.replicate 21 (.str (txt d)))) n2
          refine ⟨strL 21 (txt d), strL 21 (txt d), .lst (SqL.of (g2 _ _ (g1 _ _ hD))) (dp_strs 21), .lst (xs := List.replicate 21 (.str (txt d))) (SqL.of upd_same) (dp_strs 21), strs_sh ok, strs_sh ok, ?_⟩
          rw [strs_eq]
          exact ⟨_, rfl, iteF ⟨(e5.trans e6).trans ((eM.trans g1).trans g2), _, _, _, _, _, rfl⟩⟩
      rintro _ H6 ⟨e6, s5, s6, s7, s8, s9, rfl⟩
      refine ⟨fun σ' H' => Same H4 H' ∧ ∃ s5 s6 s7 s8 s9, σ' = [some (.ref a), some (.int i), some (.ref pl), some v, some (.ref p), s5, s6, s7, s8, s9], ?_, ?_⟩
      · refine fun b1 nb1 => ⟨b1, 22, [], rfl, by decide, er_mk0, fun H7 q7 e7 h7 => ⟨(by show 1 ≤ sizeLine; decide), fun z1 n1 => ⟨z1, 22, _, rfl, rfl, upd_same, by decide, by decide, (by show 1 * 22 ≤ sizeLine; decide), fun z2 n2 => ?_⟩⟩⟩
        have g0 := Same.new (o := exo b1 (cl 22) none) nb1
        have g1 := Same.new (o := .lst [.bl false]) n1
        have g2 := Same.new (o := .lst ((List.replicate 22 false).map V.bl)) n2
        have h7' := g2 _ _ (g1 _ _ h7)
        rw [kindsL_eq, kB22] at h7'
        refine ⟨_, _, dp_blL h7', dp_blL (l := List.replicate 22 false) upd_same, by rw [← kB22]; exact kB_sh 22 (by decide), by rw [← kB22]; exact kB_sh 22 (by decide), ?_⟩
        rw [eqv_bls]
        refine ⟨_, rfl, iteF fun b2 nb2 => ?_⟩
        have g3 := Same.new (o := exo b2 (cl 22) none) nb2
        refine ⟨b2, cl 22, [], _, _, true, rfl, er_mk0, S.x 22 (by decide), .ty _, S.kV22, _, rfl, iteF ⟨((((e6.trans g0).trans e7).trans g1).trans g2).trans g3, _, _, _, _, _, rfl⟩⟩
      rintro _ H7 ⟨e7, s5, s6, s7, s8, s9, rfl⟩
      refine ⟨fun σ' H' => Same H4 H' ∧ ∃ s5 s6 s7 s8 s9, σ' = [some (.ref a), some (.int i), some (.ref pl), some v, some (.ref p), s5, s6, s7, s8, s9], ?_, ?_⟩
      · refine ⟨_, rfl, v, 0, d, rfl, by decide, hA4.ex e7, sh, fun H8 q8 e8 h8 => ⟨_, rfl, d, v, rfl, hA4.ex (e7.trans e8), sh, (by show 2 ≤ sizeLine; decide), fun z1 n1 => ?_⟩⟩
        have g1 := Same.new (o := .lst [.str "text", .str (txt d)]) n1
        refine ⟨two "text" (txt d), two "text" (txt d), dp_two (g1 _ _ h8), dp_two upd_same, two_sh (by decide +kernel) ok, two_sh (by decide +kernel) ok, ?_⟩
        rw [two_eq]
        refine ⟨_, rfl, iteF ⟨_, rfl, v, 1, d, rfl, by decide, hA4.ex ((e7.trans e8).trans g1), sh, fun H9 q9 e9 h9 => ⟨_, rfl, d, v, rfl, hA4.ex (((e7.trans e8).trans g1).trans e9), sh, (by show 2 ≤ sizeLine; decide), fun z2 n2 => ?_⟩⟩⟩
        have g2 := Same.new (o := .lst [.str "limit", .str (txt d)]) n2
        refine ⟨two "limit" (txt d), two "limit" (txt d), dp_two (g2 _ _ h9), dp_two upd_same, two_sh (by decide +kernel) ok, two_sh (by decide +kernel) ok, ?_⟩
        rw [two_eq]
        exact ⟨_, rfl, iteF ⟨(((e7.trans e8).trans g1).trans e9).trans g2, _, _, _, _, _, rfl⟩⟩
      rintro _ H8 ⟨e8, s5, s6, s7, s8, s9, rfl⟩
      refine ⟨_, rfl, v, 2, d, rfl, by decide, hA4.ex e8, sh, fun H9 q9 e9 h9 => ⟨_, rfl, d, v, rfl, hA4.ex (e8.trans e9), sh, (by show 2 ≤ sizeLine; decide), fun z1 n1 => ?_⟩⟩
      have g1 := Same.new (o := .lst [.str "name", .str (txt d)]) n1
      refine ⟨two "name" (txt d), two "name" (txt d), dp_two (g1 _ _ h9), dp_two upd_same, two_sh (by decide +kernel) ok, two_sh (by decide +kernel) ok, ?_⟩
      rw [two_eq]
      refine ⟨_, rfl, iteF ⟨_, rfl, v, 3, d, rfl, by decide, hA4.ex ((e8.trans e9).trans g1), sh, fun H10 q10 e10 h10 => ⟨_, rfl, d, v, rfl, hA4.ex (((e8.trans e9).trans g1).trans e10), sh, (by show 2 ≤ sizeLine; decide), fun z2 n2 => ?_⟩⟩⟩
      have g2 := Same.new (o := .lst [.str "user", .str (txt d)]) n2
      refine ⟨two "user" (txt d), two "user" (txt d), dp_two (g2 _ _ h10), dp_two upd_same, two_sh (by decide +kernel) ok, two_sh (by decide +kernel) ok, ?_⟩
      rw [two_eq]
      exact ⟨_, rfl, iteF ⟨sm.trans (e3.trans (e4.trans ((((e8.trans e9).trans g1).trans e10).trans g2))), _, _, _, _, _, _, _, _, _, rfl⟩⟩
    · rintro σ H1 ⟨sm, _⟩
      exact k _
end
end Fu

namespace Fu
open PySem L2
open PyProof.Rows hiding St
open L2H (RoomH roomH_of)
/-- the class object of an own error, by its name and its mro -/
def ClsL (K : PySem.W.Frag) (C : Addr) (nm : Str) (bm : List Value) (newId : String) : Prop := ∃ q N bs sn sub ab col dd k0 k1 k2 k3 k5, K.lookup C = some (excClassObj nm q C N bs bm true sn sub ab col dd k0 k1 k2 k3 k5 newId)
theorem ref_beq (a b : Addr) : (Value.ref a == Value.ref b) = (a == b) := by
  by_cases h : a = b
  · subst h
    simp
  · rw [beq_eq_false_iff_ne.mpr h, beq_eq_false_iff_ne.mpr fun z => h (Value.ref.inj z)]
section
variable {K : PySem.W.Frag} {C D : Addr} {nm nm' : Str} {bm bm' : List Value} {newId newId' : String}
theorem ClsL.cls (h : ClsL K C nm bm newId) : ∃ cd, PySem.W.clsIn K C = some cd ∧ cd.mro = .ref C :: bm ∧ cd.hasDict = true ∧ cd.name = nm := by
  obtain ⟨q, N, bs, sn, sub, ab, col, dd, k0, k1, k2, k3, k5, e⟩ := h
  exact ⟨{ name := nm, bases := bs, mro := .ref C :: bm, ns := N, qualname := q, hasDict := true, slotNames := sn, subclasses := sub, abstract := ab, collection := col, hasDel := false }, by unfold PySem.W.clsIn; rw [e] <;> rfl, rfl, rfl, rfl⟩
theorem ClsL.ty (h : ClsL K C nm bm newId) : PySem.W.typeIn K (.ref C) = some (.type "type") := by
  obtain ⟨q, N, bs, sn, sub, ab, col, dd, k0, k1, k2, k3, k5, e⟩ := h
  show Option.map (fun x => x.cls) (K.lookup C) = _
  rw [e]
  rfl
theorem ClsL.mro (h : ClsL K C nm bm newId) (b : Value) : PySem.W.mroIn K C b = some ((Value.ref C :: bm).contains b) := by
  obtain ⟨cd, e, m, _, _⟩ := h.cls
  unfold PySem.W.mroIn
  rw [e, Option.bind_some, m]
  rfl
theorem ClsL.sub (h : ClsL K C nm bm newId) (b : Value) : PySem.W.subIn K (.ref C) b = some ((Value.ref C :: bm).contains b) := h.mro b
theorem ClsL.subT (h : ClsL K C nm bm newId) (T : String) : PySem.W.subIn K (.ref C) (.type T) = some (bm.contains (.type T)) := by
  rw [h.sub, List.contains_cons]
  rfl
theorem ClsL.hd (h : ClsL K C nm bm newId) : PySem.W.hasDictIn K C = true := by
  obtain ⟨cd, e, _, d, _⟩ := h.cls
  unfold PySem.W.hasDictIn
  rw [e]
  exact d
theorem ClsL.ne (h : ClsL K C nm bm newId) (h' : ClsL K D nm' bm' newId') (n : nm ≠ nm') : C ≠ D := fun e => by
  obtain ⟨cd, e1, _, _, n1⟩ := h.cls
  obtain ⟨cd', e2, _, _, n2⟩ := h'.cls
  rw [e, e2] at e1
  cases e1
  exact n (n1.symm.trans n2)
theorem ClsL.kitT (h : ClsL K C nm bm newId) {T : String} (m : PySem.W.kitMeta T = true) : PySem.W.kitOne K (.ref C) (.type T) = some (bm.contains (.type T)) := by
  have e : PySem.W.kitOne K (.ref C) (.type T) = (if PySem.W.kitMeta T = true then PySem.W.subIn K (.ref C) (.type T) else none) := rfl
  rw [e, if_pos m, h.subT]
theorem ClsL.kitC (h : ClsL K C nm bm newId) (h' : ClsL K D nm' bm' newId') : PySem.W.kitCls K (.ref C) (.ref D) = some ((Value.ref C :: bm).contains (.ref D)) := by
  obtain ⟨cd, e1, _⟩ := h'.cls
  have e : PySem.W.kitCls K (.ref C) (.ref D) = (if ((PySem.W.clsIn K D).isSome && PySem.W.typeIn K (.ref D) == some (.type "type")) = true then PySem.W.subIn K (.ref C) (.ref D) else none) := rfl
  rw [e, if_pos (by rw [e1, h'.ty]; rfl), h.sub]
theorem ClsL.kit1 (h : ClsL K C nm bm newId) (h' : ClsL K D nm' bm' newId') : PySem.W.kitOne K (.ref C) (.ref D) = some ((Value.ref C :: bm).contains (.ref D)) := by
  unfold PySem.W.kitOne
  split
  · rename_i z
    have z' := beq_iff_eq.mp z
    rw [z']
    simp
  · exact h.kitC h'
theorem ClsL.exm (h : ClsL K C nm bm newId) (h' : ClsL K D nm' bm' newId') (hb : bm'.contains (.type "BaseException") = true) : PySem.W.exmOne K (.ref C) (.ref D) = some ((Value.ref C :: bm).contains (.ref D)) := by
  unfold PySem.W.exmOne
  rw [h'.subT, hb, if_pos (by rfl), h.kitC h']
end
/-- the mro behind each class -/
def tl (i : Nat) : List Value := if i < 17 then tailV else if i = 17 then tailR else if i = 18 then tailR else if i = 19 then tailO else if i = 20 then tailK else if i = 21 then tailL else tailV
def mroY (cl : Nat → Addr) (i : Nat) : List Value := if i < 17 then .ref (cl 22) :: tailV else tl i
def newY' (i : Nat) : String := if i < 17 then "ValueError.__new__" else if i = 17 then "RuntimeError.__new__" else if i = 18 then "RuntimeError.__new__" else if i = 19 then "OverflowError.__new__" else if i = 20 then "LookupError.__new__" else if i = 21 then "LookupError.__new__" else "ValueError.__new__"
theorem mroY_T (cl : Nat → Addr) (i : Nat) (T : String) : (mroY cl i).contains (.type T) = (tl i).contains (.type T) := by
  unfold mroY
  split
  · rename_i h
    rw [List.contains_cons]
    unfold tl
    rw [if_pos h]
    rfl
  · rfl
theorem mroY_is (cl : Nat → Addr) (i : Nat) : ∃ cs : List Addr, mroY cl i = cs.map Value.ref ++ tl i := by
  unfold mroY
  split
  · rename_i h
    refine ⟨[cl 22], ?_⟩
    unfold tl
    rw [if_pos h]
    rfl
  · exact ⟨[], rfl⟩
theorem mroY_R (cl : Nat → Addr) (i : Nat) (D : Addr) : (mroY cl i).contains (.ref D) = (decide (i < 17) && (D == cl 22)) := by
  unfold mroY
  split
  · rename_i h
    rw [List.contains_cons, decide_eq_true h, Bool.true_and]
    have e : tailV.contains (Value.ref D) = false := rfl
    rw [e, Bool.or_false]
    exact ref_beq ..
  · rename_i h
    rw [decide_eq_false h, Bool.false_and]
    unfold tl
    rw [if_neg h]
    repeat' split
    all_goals rfl
theorem baseOf (i : Nat) : BaseY (newY' i) (tl i) := by
  unfold newY' tl
  repeat' split
  all_goals first | exact baseV | exact baseR | exact baseO | exact baseK | exact baseL
theorem nm_inj : ∀ i, i < 23 → ∀ j, j < 23 → nm i = nm j → i = j := by decide +kernel
theorem tl_B : ∀ i, i < 23 → (tl i).contains (.type "BaseException") = true := by decide +kernel
theorem tl_O : ∀ i, i < 23 → (tl i).contains (.type "object") = true := by decide +kernel
theorem tl_V : ∀ i, i < 22 → (tl i).contains (.type "ValueError") = decide (i < 17) := by decide +kernel
theorem tl_R : ∀ i, i < 22 → (tl i).contains (.type "RuntimeError") = (i == 17 || i == 18) := by decide +kernel
theorem tl_Ov : ∀ i, i < 22 → (tl i).contains (.type "OverflowError") = (i == 19) := by decide +kernel
theorem tl_L : ∀ i, i < 22 → (tl i).contains (.type "LookupError") = (i == 20 || i == 21) := by decide +kernel
theorem tl_K : ∀ i, i < 22 → (tl i).contains (.type "KeyError") = (i == 20) := by decide +kernel
/-- what is asked of each class beside -/
structure ClsX (K : PySem.W.Frag) (C : Addr) : Prop where
  sa : PySem.W.findIn K (.ref C) "__setattr__" = some (some (.builtin "object.__setattr__"))
  ga : PySem.W.findIn K (.ref C) "__getattribute__" = some (some (.builtin "BaseException.__getattribute__"))
  gg : PySem.W.findIn K (.ref C) "__getattr__" = some none
  kC : PySem.W.keepIn K (.ref C) = true
  cC : PySem.W.findIn K (.ref C) "__class__" = some (some (.builtin "object.__class__"))
/-- .. and of each __init__ -/
structure IniX (K : PySem.W.Frag) (C f : Addr) (fl : Str) : Prop where
  iC : PySem.W.findIn K (.ref C) "__init__" = some (some (.ref f))
  tI : PySem.W.typeIn K (.ref f) = some (.type "function")
  noF : PySem.W.findIn K (.ref C) fl = some none
section
variable {P : Program} {w : World} {K : PySem.W.Frag} {mg : Str → Option Value} {base : Heap} {cl fi : Nat → Addr} {fdi : Nat → FuncData}
theorem errY_of (L : ∀ i, i < 23 → ClsL K (cl i) (nm i) (mroY cl i) (newY' i)) (Xc : ∀ i, i < 23 → ClsX K (cl i)) (Xi : ∀ i, own i = true → IniX K (cl i) (fi i) (fl i)) (g : ∀ i, i < 23 → mg (nm i) = some (.ref (cl i))) :
    ∀ i, own i = true → ErrY K mg (nm i) (fl i) (cl i) (fi i) := by
  intro i ho
  have hi : i < 23 := by
    unfold own at ho
    simp at ho
    omega
  have l := L i hi
  have x := Xc i hi
  have n := Xi i ho
  have b : PySem.W.subIn K (.ref (cl i)) (.type "BaseException") = some true := by rw [l.subT, mroY_T, tl_B i hi]
  refine ⟨⟨⟨newY' i, tl i, baseOf i, ?_⟩, x.sa, b, l.ty, x.kC⟩, g i hi, n.iC, n.tI, n.noF, ⟨x.ga, x.gg, b, l.hd⟩⟩
  obtain ⟨q, N, bs, sn, sub, ab, col, dd, k0, k1, k2, k3, k5, e⟩ := l
  obtain ⟨cs, ec⟩ := mroY_is cl i
  rw [ec] at e
  exact ⟨_, _, _, _, cs, _, _, _, _, _, _, _, _, _, _, e⟩
theorem errS_of (L : ∀ i, i < 23 → ClsL K (cl i) (nm i) (mroY cl i) (newY' i)) (Xc : ∀ i, i < 23 → ClsX K (cl i)) (Xi : ∀ i, own i = true → IniX K (cl i) (fi i) (fl i)) (g : ∀ i, i < 23 → mg (nm i) = some (.ref (cl i)))
    (sp : PySem.W.specialIn K (.builtin "object.__class__") "__get__" = some (some (.builtin "getset_descriptor.__get__"))) (tk : PySem.W.takesIn K (.builtin "object.__class__") = some true)
    (ok : ∀ i, own i = true → FnOk P w K mg base CX0 1 (fi i) (fdi i) ["self", fl i] (spX (cl i) (fl i))) (b : ∀ i, own i = true → Binds K (fdi i) ["self", fl i] [])
    (n17 : PySem.W.excIn K (cl 17) tailR "RuntimeError.__new__" = true) (n22 : PySem.W.excIn K (cl 22) tailV "ValueError.__new__" = true) : ErrS P w K mg base cl fi fdi := by
  have ne : ∀ i j, i < 23 → j < 23 → (cl i == cl j) = (i == j) := fun i j hi hj => by
    by_cases e : i = j
    · subst e
      simp
    · have h := (L i hi).ne (L j hj) fun z => e (nm_inj i hi j hj z)
      rw [beq_eq_false_iff_ne.mpr h, beq_eq_false_iff_ne.mpr e]
  have cont : ∀ i j, i < 23 → j < 23 → (Value.ref (cl i) :: mroY cl i).contains (.ref (cl j)) = (j == i || (decide (i < 17) && (j == 22))) := fun i j hi hj => by
    rw [List.contains_cons, mroY_R, ne j 22 hj (by decide)]
    have e : (Value.ref (cl j) == Value.ref (cl i)) = (cl j == cl i) := ref_beq ..
    rw [e, ne j i hj hi]
  refine ⟨errY_of L Xc Xi g, ok, b, g, ?_, ?_, ?_, ?_, ?_, ?_, ?_, ?_, ?_, n17, (Xc 17 (by decide)).kC, n22, (Xc 22 (by decide)).kC, ?_⟩
  · intro i hi
    have l := L i hi
    have x := Xc i hi
    exact ⟨x.ga, x.gg, by rw [l.subT, mroY_T, tl_B i hi], l.hd, x.cC, sp, tk, by rw [l.mro, List.contains_cons, mroY_T, tl_O i hi, Bool.or_true]⟩
  · intro i j hi hj
    rw [(L i hi).kit1 (L j (by omega)), cont i j hi (by omega)]
    have e : (j == 22) = false := beq_eq_false_iff_ne.mpr (by omega)
    rw [e, Bool.and_false, Bool.or_false]
    congr 1
    exact Bool.beq_comm ..
  · intro i hi
    rw [(L i (by omega)).kit1 (L 22 (by decide)), cont i 22 (by omega) (by decide)]
    have e : (22 == i) = false := beq_eq_false_iff_ne.mpr (by omega)
    rw [e, Bool.false_or]
    simp
  · intro i hi
    rw [(L i (by omega)).kitT (by decide +kernel), mroY_T, tl_V i hi]
  · intro i hi
    rw [(L i (by omega)).kitT (by decide +kernel), mroY_T, tl_R i hi]
  · intro i hi
    rw [(L i (by omega)).kitT (by decide +kernel), mroY_T, tl_Ov i hi]
  · intro i hi
    rw [(L i (by omega)).kitT (by decide +kernel), mroY_T, tl_L i hi]
  · intro i hi
    rw [(L i (by omega)).kitT (by decide +kernel), mroY_T, tl_K i hi]
  · rw [(L 22 (by decide)).kitT (by decide +kernel), mroY_T]
    rfl
  · intro i j hi hj
    have hj' : j < 23 := by omega
    rw [(L i (by omega)).exm (L j hj') (by rw [mroY_T, tl_B j hj']), cont i j (by omega) hj']
    congr 1
    by_cases e : j = 22
    · subst e
      have e : (22 == i) = false := beq_eq_false_iff_ne.mpr (by omega)
      rw [e, if_pos rfl]
      simp
    · have e2 : (j == 22) = false := beq_eq_false_iff_ne.mpr e
      rw [if_neg e, e2, Bool.and_false, Bool.or_false]
      exact Bool.beq_comm ..
end
end Fu

namespace Fu
open PySem L2
open PyProof.Rows hiding St
open L2H (RoomH roomH_of)
theorem all_mk {l : PySem.W.OpenLaw} {w : World} {K : PySem.W.Frag} {h : Heap} {mg : Str → Option Value} {fa : Addr} (X : K.In h) (G : h.Ns mainGlobals mg) (hfa : mg "law" = some (.ref fa))
    {C0 C1 C2 C3 C4 C5 C6 C7 C8 C9 C10 C11 C12 C13 C14 C15 C16 C17 C18 C19 C20 C21 C22 fpool ftake fkin fbas fmad ffie frai flaw : Addr} {odpool anpool odtake antake odkin ankin odbas anbas odmad anmad odfie anfie odrai anrai odlaw anlaw : Option Addr} {slpool sltake slkin slbas slmad slfie slrai sllaw : Array (Option Value)} {ocpool kVpool dcpool pmpool cdpool ctpool octake kVtake dctake pmtake cdtake cttake ockin kVkin dckin pmkin cdkin ctkin ocbas kVbas dcbas pmbas cdbas ctbas ocmad kVmad dcmad pmmad cdmad ctmad ocfie kVfie dcfie pmfie cdfie ctfie ocrai kVrai dcrai pmrai cdrai ctrai oclaw kVlaw dclaw pmlaw cdlaw ctlaw : Value}
    {f0 f1 f2 f3 f4 f5 f6 f7 f8 f9 f10 f11 f12 f13 f14 f15 f16 f18 f19 f20 f21 : Addr}
    (zaC0 : PySem.W.nsIn K mainGlobals "InvalidNumber" = some (some (.ref C0)))
    (zaC1 : PySem.W.nsIn K mainGlobals "InvalidNet" = some (some (.ref C1)))
    (zaC2 : PySem.W.nsIn K mainGlobals "InvalidPoint" = some (some (.ref C2)))
    (zaC3 : PySem.W.nsIn K mainGlobals "InvalidLights" = some (some (.ref C3)))
    (zaC4 : PySem.W.nsIn K mainGlobals "InvalidFuse" = some (some (.ref C4)))
    (zaC5 : PySem.W.nsIn K mainGlobals "InvalidRules" = some (some (.ref C5)))
    (zaC6 : PySem.W.nsIn K mainGlobals "InvalidJoin" = some (some (.ref C6)))
    (zaC7 : PySem.W.nsIn K mainGlobals "InvalidObservations" = some (some (.ref C7)))
    (zaC8 : PySem.W.nsIn K mainGlobals "InvalidName" = some (some (.ref C8)))
    (zaC9 : PySem.W.nsIn K mainGlobals "InvalidAction" = some (some (.ref C9)))
    (zaC10 : PySem.W.nsIn K mainGlobals "InvalidText" = some (some (.ref C10)))
    (zaC11 : PySem.W.nsIn K mainGlobals "InvalidCommand" = some (some (.ref C11)))
    (zaC12 : PySem.W.nsIn K mainGlobals "InvalidLengths" = some (some (.ref C12)))
    (zaC13 : PySem.W.nsIn K mainGlobals "InvalidPrices" = some (some (.ref C13)))
    (zaC14 : PySem.W.nsIn K mainGlobals "InvalidNodes" = some (some (.ref C14)))
    (zaC15 : PySem.W.nsIn K mainGlobals "InvalidProgram" = some (some (.ref C15)))
    (zaC16 : PySem.W.nsIn K mainGlobals "NameTaken" = some (some (.ref C16)))
    (zaC17 : PySem.W.nsIn K mainGlobals "NotATree" = some (some (.ref C17)))
    (zaC18 : PySem.W.nsIn K mainGlobals "Blocked" = some (some (.ref C18)))
    (zaC19 : PySem.W.nsIn K mainGlobals "LimitExceeded" = some (some (.ref C19)))
    (zaC20 : PySem.W.nsIn K mainGlobals "UnknownName" = some (some (.ref C20)))
    (zaC21 : PySem.W.nsIn K mainGlobals "NothingToUndo" = some (some (.ref C21)))
    (zaC22 : PySem.W.nsIn K mainGlobals "NetError" = some (some (.ref C22)))
    (zapool : PySem.W.nsIn K mainGlobals "_law_pool" = some (some (.ref fpool)))
    (zlpool : K.lookup fpool = some ⟨ocpool, odpool, .func (PySem.W.fnOf "_law_pool" "_law_pool" (defArgs sPool) (defBody sPool) (defScope sPool) .none kVpool dcpool pmpool anpool cdpool ctpool), slpool⟩)
    (zcpool : PySem.W.codeIn K cdpool "_law_pool" = true)
    (zkpool : PySem.W.keepIn K (.ref fpool) = true)
    (zatake : PySem.W.nsIn K mainGlobals "_law_take" = some (some (.ref ftake)))
    (zltake : K.lookup ftake = some ⟨octake, odtake, .func (PySem.W.fnOf "_law_take" "_law_take" (defArgs sTake) (defBody sTake) (defScope sTake) .none kVtake dctake pmtake antake cdtake cttake), sltake⟩)
    (zctake : PySem.W.codeIn K cdtake "_law_take" = true)
    (zktake : PySem.W.keepIn K (.ref ftake) = true)
    (zakin : PySem.W.nsIn K mainGlobals "_law_kinds" = some (some (.ref fkin)))
    (zlkin : K.lookup fkin = some ⟨ockin, odkin, .func (PySem.W.fnOf "_law_kinds" "_law_kinds" (defArgs s_law_kinds) (defBody s_law_kinds) (defScope s_law_kinds) .none kVkin dckin pmkin ankin cdkin ctkin), slkin⟩)
    (zckin : PySem.W.codeIn K cdkin "_law_kinds" = true)
    (zkkin : PySem.W.keepIn K (.ref fkin) = true)
    (zabas : PySem.W.nsIn K mainGlobals "_law_bases" = some (some (.ref fbas)))
    (zlbas : K.lookup fbas = some ⟨ocbas, odbas, .func (PySem.W.fnOf "_law_bases" "_law_bases" (defArgs s_law_bases) (defBody s_law_bases) (defScope s_law_bases) .none kVbas dcbas pmbas anbas cdbas ctbas), slbas⟩)
    (zcbas : PySem.W.codeIn K cdbas "_law_bases" = true)
    (zkbas : PySem.W.keepIn K (.ref fbas) = true)
    (zamad : PySem.W.nsIn K mainGlobals "_law_made" = some (some (.ref fmad)))
    (zlmad : K.lookup fmad = some ⟨ocmad, odmad, .func (PySem.W.fnOf "_law_made" "_law_made" (defArgs s_law_made) (defBody s_law_made) (defScope s_law_made) .none kVmad dcmad pmmad anmad cdmad ctmad), slmad⟩)
    (zcmad : PySem.W.codeIn K cdmad "_law_made" = true)
    (zkmad : PySem.W.keepIn K (.ref fmad) = true)
    (zafie : PySem.W.nsIn K mainGlobals "_law_fields" = some (some (.ref ffie)))
    (zlfie : K.lookup ffie = some ⟨ocfie, odfie, .func (PySem.W.fnOf "_law_fields" "_law_fields" (defArgs s_law_fields) (defBody s_law_fields) (defScope s_law_fields) .none kVfie dcfie pmfie anfie cdfie ctfie), slfie⟩)
    (zcfie : PySem.W.codeIn K cdfie "_law_fields" = true)
    (zkfie : PySem.W.keepIn K (.ref ffie) = true)
    (zarai : PySem.W.nsIn K mainGlobals "_law_raised" = some (some (.ref frai)))
    (zlrai : K.lookup frai = some ⟨ocrai, odrai, .func (PySem.W.fnOf "_law_raised" "_law_raised" (defArgs sRaised) (defBody sRaised) (defScope sRaised) .none kVrai dcrai pmrai anrai cdrai ctrai), slrai⟩)
    (zcrai : PySem.W.codeIn K cdrai "_law_raised" = true)
    (zkrai : PySem.W.keepIn K (.ref frai) = true)
    (zalaw : PySem.W.nsIn K mainGlobals "law" = some (some (.ref flaw)))
    (zllaw : K.lookup flaw = some ⟨oclaw, odlaw, .func (PySem.W.fnOf "law" "law" (defArgs sLaw) (defBody sLaw) (defScope sLaw) .none kVlaw dclaw pmlaw anlaw cdlaw ctlaw), sllaw⟩)
    (zclaw : PySem.W.codeIn K cdlaw "law" = true)
    (zklaw : PySem.W.keepIn K (.ref flaw) = true)
    (znisinstance : PySem.W.nsIn K mainGlobals "isinstance" = some none)
    (znValueError : PySem.W.nsIn K mainGlobals "ValueError" = some none)
    (znRuntimeError : PySem.W.nsIn K mainGlobals "RuntimeError" = some none)
    (znOverflowError : PySem.W.nsIn K mainGlobals "OverflowError" = some none)
    (znLookupError : PySem.W.nsIn K mainGlobals "LookupError" = some none)
    (znKeyError : PySem.W.nsIn K mainGlobals "KeyError" = some none)
    (znrange : PySem.W.nsIn K mainGlobals "range" = some none)
    (znmax : PySem.W.nsIn K mainGlobals "max" = some none)
    (znmin : PySem.W.nsIn K mainGlobals "min" = some none)
    (znlen : PySem.W.nsIn K mainGlobals "len" = some none)
    (znrepr : PySem.W.nsIn K mainGlobals "repr" = some none)
    (znenumerate : PySem.W.nsIn K mainGlobals "enumerate" = some none)
    (znabs : PySem.W.nsIn K mainGlobals "abs" = some none)
    (znint : PySem.W.nsIn K mainGlobals "int" = some none)
    (zL0 : ClsL K C0 "InvalidNumber" [.ref C22, .type "ValueError", .type "Exception", .type "BaseException", .type "object"] "ValueError.__new__")
    (zX0 : ClsX K C0)
    (zL1 : ClsL K C1 "InvalidNet" [.ref C22, .type "ValueError", .type "Exception", .type "BaseException", .type "object"] "ValueError.__new__")
    (zX1 : ClsX K C1)
    (zL2 : ClsL K C2 "InvalidPoint" [.ref C22, .type "ValueError", .type "Exception", .type "BaseException", .type "object"] "ValueError.__new__")
    (zX2 : ClsX K C2)
    (zL3 : ClsL K C3 "InvalidLights" [.ref C22, .type "ValueError", .type "Exception", .type "BaseException", .type "object"] "ValueError.__new__")
    (zX3 : ClsX K C3)
    (zL4 : ClsL K C4 "InvalidFuse" [.ref C22, .type "ValueError", .type "Exception", .type "BaseException", .type "object"] "ValueError.__new__")
    (zX4 : ClsX K C4)
    (zL5 : ClsL K C5 "InvalidRules" [.ref C22, .type "ValueError", .type "Exception", .type "BaseException", .type "object"] "ValueError.__new__")
    (zX5 : ClsX K C5)
    (zL6 : ClsL K C6 "InvalidJoin" [.ref C22, .type "ValueError", .type "Exception", .type "BaseException", .type "object"] "ValueError.__new__")
    (zX6 : ClsX K C6)
    (zL7 : ClsL K C7 "InvalidObservations" [.ref C22, .type "ValueError", .type "Exception", .type "BaseException", .type "object"] "ValueError.__new__")
    (zX7 : ClsX K C7)
    (zL8 : ClsL K C8 "InvalidName" [.ref C22, .type "ValueError", .type "Exception", .type "BaseException", .type "object"] "ValueError.__new__")
    (zX8 : ClsX K C8)
    (zL9 : ClsL K C9 "InvalidAction" [.ref C22, .type "ValueError", .type "Exception", .type "BaseException", .type "object"] "ValueError.__new__")
    (zX9 : ClsX K C9)
    (zL10 : ClsL K C10 "InvalidText" [.ref C22, .type "ValueError", .type "Exception", .type "BaseException", .type "object"] "ValueError.__new__")
    (zX10 : ClsX K C10)
    (zL11 : ClsL K C11 "InvalidCommand" [.ref C22, .type "ValueError", .type "Exception", .type "BaseException", .type "object"] "ValueError.__new__")
    (zX11 : ClsX K C11)
    (zL12 : ClsL K C12 "InvalidLengths" [.ref C22, .type "ValueError", .type "Exception", .type "BaseException", .type "object"] "ValueError.__new__")
    (zX12 : ClsX K C12)
    (zL13 : ClsL K C13 "InvalidPrices" [.ref C22, .type "ValueError", .type "Exception", .type "BaseException", .type "object"] "ValueError.__new__")
    (zX13 : ClsX K C13)
    (zL14 : ClsL K C14 "InvalidNodes" [.ref C22, .type "ValueError", .type "Exception", .type "BaseException", .type "object"] "ValueError.__new__")
    (zX14 : ClsX K C14)
    (zL15 : ClsL K C15 "InvalidProgram" [.ref C22, .type "ValueError", .type "Exception", .type "BaseException", .type "object"] "ValueError.__new__")
    (zX15 : ClsX K C15)
    (zL16 : ClsL K C16 "NameTaken" [.ref C22, .type "ValueError", .type "Exception", .type "BaseException", .type "object"] "ValueError.__new__")
    (zX16 : ClsX K C16)
    (zL17 : ClsL K C17 "NotATree" [.type "RuntimeError", .type "Exception", .type "BaseException", .type "object"] "RuntimeError.__new__")
    (zX17 : ClsX K C17)
    (zL18 : ClsL K C18 "Blocked" [.type "RuntimeError", .type "Exception", .type "BaseException", .type "object"] "RuntimeError.__new__")
    (zX18 : ClsX K C18)
    (zL19 : ClsL K C19 "LimitExceeded" [.type "OverflowError", .type "ArithmeticError", .type "Exception", .type "BaseException", .type "object"] "OverflowError.__new__")
    (zX19 : ClsX K C19)
    (zL20 : ClsL K C20 "UnknownName" [.type "KeyError", .type "LookupError", .type "Exception", .type "BaseException", .type "object"] "LookupError.__new__")
    (zX20 : ClsX K C20)
    (zL21 : ClsL K C21 "NothingToUndo" [.type "LookupError", .type "Exception", .type "BaseException", .type "object"] "LookupError.__new__")
    (zX21 : ClsX K C21)
    (zL22 : ClsL K C22 "NetError" [.type "ValueError", .type "Exception", .type "BaseException", .type "object"] "ValueError.__new__")
    (zX22 : ClsX K C22)
    (zI0 : IniX K C0 f0 "value")
    (zF0 : ∃ oc od kV dc pm an cd ct sl, K.lookup f0 = some ⟨oc, od, .func (PySem.W.fnOf "__init__" "InvalidNumber.__init__" (defArgs sInvNum) (defBody sInvNum) (defScope sInvNum) .none kV dc pm an cd ct), sl⟩ ∧ PySem.W.codeIn K cd "InvalidNumber.__init__" = true ∧ PySem.W.keepIn K (.ref f0) = true)
    (zI1 : IniX K C1 f1 "part")
    (zF1 : ∃ oc od kV dc pm an cd ct sl, K.lookup f1 = some ⟨oc, od, .func (PySem.W.fnOf "__init__" "InvalidNet.__init__" (defArgs sInvalidNet_init) (defBody sInvalidNet_init) (defScope sInvalidNet_init) .none kV dc pm an cd ct), sl⟩ ∧ PySem.W.codeIn K cd "InvalidNet.__init__" = true ∧ PySem.W.keepIn K (.ref f1) = true)
    (zI2 : IniX K C2 f2 "value")
    (zF2 : ∃ oc od kV dc pm an cd ct sl, K.lookup f2 = some ⟨oc, od, .func (PySem.W.fnOf "__init__" "InvalidPoint.__init__" (defArgs sInvalidPoint_init) (defBody sInvalidPoint_init) (defScope sInvalidPoint_init) .none kV dc pm an cd ct), sl⟩ ∧ PySem.W.codeIn K cd "InvalidPoint.__init__" = true ∧ PySem.W.keepIn K (.ref f2) = true)
    (zI3 : IniX K C3 f3 "index")
    (zF3 : ∃ oc od kV dc pm an cd ct sl, K.lookup f3 = some ⟨oc, od, .func (PySem.W.fnOf "__init__" "InvalidLights.__init__" (defArgs sInvalidLights_init) (defBody sInvalidLights_init) (defScope sInvalidLights_init) .none kV dc pm an cd ct), sl⟩ ∧ PySem.W.codeIn K cd "InvalidLights.__init__" = true ∧ PySem.W.keepIn K (.ref f3) = true)
    (zI4 : IniX K C4 f4 "value")
    (zF4 : ∃ oc od kV dc pm an cd ct sl, K.lookup f4 = some ⟨oc, od, .func (PySem.W.fnOf "__init__" "InvalidFuse.__init__" (defArgs sInvalidFuse_init) (defBody sInvalidFuse_init) (defScope sInvalidFuse_init) .none kV dc pm an cd ct), sl⟩ ∧ PySem.W.codeIn K cd "InvalidFuse.__init__" = true ∧ PySem.W.keepIn K (.ref f4) = true)
    (zI5 : IniX K C5 f5 "part")
    (zF5 : ∃ oc od kV dc pm an cd ct sl, K.lookup f5 = some ⟨oc, od, .func (PySem.W.fnOf "__init__" "InvalidRules.__init__" (defArgs sInvalidRules_init) (defBody sInvalidRules_init) (defScope sInvalidRules_init) .none kV dc pm an cd ct), sl⟩ ∧ PySem.W.codeIn K cd "InvalidRules.__init__" = true ∧ PySem.W.keepIn K (.ref f5) = true)
    (zI6 : IniX K C6 f6 "value")
    (zF6 : ∃ oc od kV dc pm an cd ct sl, K.lookup f6 = some ⟨oc, od, .func (PySem.W.fnOf "__init__" "InvalidJoin.__init__" (defArgs sInvalidJoin_init) (defBody sInvalidJoin_init) (defScope sInvalidJoin_init) .none kV dc pm an cd ct), sl⟩ ∧ PySem.W.codeIn K cd "InvalidJoin.__init__" = true ∧ PySem.W.keepIn K (.ref f6) = true)
    (zI7 : IniX K C7 f7 "value")
    (zF7 : ∃ oc od kV dc pm an cd ct sl, K.lookup f7 = some ⟨oc, od, .func (PySem.W.fnOf "__init__" "InvalidObservations.__init__" (defArgs sInvalidObservations_init) (defBody sInvalidObservations_init) (defScope sInvalidObservations_init) .none kV dc pm an cd ct), sl⟩ ∧ PySem.W.codeIn K cd "InvalidObservations.__init__" = true ∧ PySem.W.keepIn K (.ref f7) = true)
    (zI8 : IniX K C8 f8 "value")
    (zF8 : ∃ oc od kV dc pm an cd ct sl, K.lookup f8 = some ⟨oc, od, .func (PySem.W.fnOf "__init__" "InvalidName.__init__" (defArgs sInvalidName_init) (defBody sInvalidName_init) (defScope sInvalidName_init) .none kV dc pm an cd ct), sl⟩ ∧ PySem.W.codeIn K cd "InvalidName.__init__" = true ∧ PySem.W.keepIn K (.ref f8) = true)
    (zI9 : IniX K C9 f9 "value")
    (zF9 : ∃ oc od kV dc pm an cd ct sl, K.lookup f9 = some ⟨oc, od, .func (PySem.W.fnOf "__init__" "InvalidAction.__init__" (defArgs sInvalidAction_init) (defBody sInvalidAction_init) (defScope sInvalidAction_init) .none kV dc pm an cd ct), sl⟩ ∧ PySem.W.codeIn K cd "InvalidAction.__init__" = true ∧ PySem.W.keepIn K (.ref f9) = true)
    (zI10 : IniX K C10 f10 "index")
    (zF10 : ∃ oc od kV dc pm an cd ct sl, K.lookup f10 = some ⟨oc, od, .func (PySem.W.fnOf "__init__" "InvalidText.__init__" (defArgs sInvalidText_init) (defBody sInvalidText_init) (defScope sInvalidText_init) .none kV dc pm an cd ct), sl⟩ ∧ PySem.W.codeIn K cd "InvalidText.__init__" = true ∧ PySem.W.keepIn K (.ref f10) = true)
    (zI11 : IniX K C11 f11 "value")
    (zF11 : ∃ oc od kV dc pm an cd ct sl, K.lookup f11 = some ⟨oc, od, .func (PySem.W.fnOf "__init__" "InvalidCommand.__init__" (defArgs sInvalidCommand_init) (defBody sInvalidCommand_init) (defScope sInvalidCommand_init) .none kV dc pm an cd ct), sl⟩ ∧ PySem.W.codeIn K cd "InvalidCommand.__init__" = true ∧ PySem.W.keepIn K (.ref f11) = true)
    (zI12 : IniX K C12 f12 "value")
    (zF12 : ∃ oc od kV dc pm an cd ct sl, K.lookup f12 = some ⟨oc, od, .func (PySem.W.fnOf "__init__" "InvalidLengths.__init__" (defArgs sInvalidLengths_init) (defBody sInvalidLengths_init) (defScope sInvalidLengths_init) .none kV dc pm an cd ct), sl⟩ ∧ PySem.W.codeIn K cd "InvalidLengths.__init__" = true ∧ PySem.W.keepIn K (.ref f12) = true)
    (zI13 : IniX K C13 f13 "value")
    (zF13 : ∃ oc od kV dc pm an cd ct sl, K.lookup f13 = some ⟨oc, od, .func (PySem.W.fnOf "__init__" "InvalidPrices.__init__" (defArgs sInvalidPrices_init) (defBody sInvalidPrices_init) (defScope sInvalidPrices_init) .none kV dc pm an cd ct), sl⟩ ∧ PySem.W.codeIn K cd "InvalidPrices.__init__" = true ∧ PySem.W.keepIn K (.ref f13) = true)
    (zI14 : IniX K C14 f14 "value")
    (zF14 : ∃ oc od kV dc pm an cd ct sl, K.lookup f14 = some ⟨oc, od, .func (PySem.W.fnOf "__init__" "InvalidNodes.__init__" (defArgs sInvalidNodes_init) (defBody sInvalidNodes_init) (defScope sInvalidNodes_init) .none kV dc pm an cd ct), sl⟩ ∧ PySem.W.codeIn K cd "InvalidNodes.__init__" = true ∧ PySem.W.keepIn K (.ref f14) = true)
    (zI15 : IniX K C15 f15 "index")
    (zF15 : ∃ oc od kV dc pm an cd ct sl, K.lookup f15 = some ⟨oc, od, .func (PySem.W.fnOf "__init__" "InvalidProgram.__init__" (defArgs sInvalidProgram_init) (defBody sInvalidProgram_init) (defScope sInvalidProgram_init) .none kV dc pm an cd ct), sl⟩ ∧ PySem.W.codeIn K cd "InvalidProgram.__init__" = true ∧ PySem.W.keepIn K (.ref f15) = true)
    (zI16 : IniX K C16 f16 "name")
    (zF16 : ∃ oc od kV dc pm an cd ct sl, K.lookup f16 = some ⟨oc, od, .func (PySem.W.fnOf "__init__" "NameTaken.__init__" (defArgs sNameTaken_init) (defBody sNameTaken_init) (defScope sNameTaken_init) .none kV dc pm an cd ct), sl⟩ ∧ PySem.W.codeIn K cd "NameTaken.__init__" = true ∧ PySem.W.keepIn K (.ref f16) = true)
    (zI18 : IniX K C18 f18 "index")
    (zF18 : ∃ oc od kV dc pm an cd ct sl, K.lookup f18 = some ⟨oc, od, .func (PySem.W.fnOf "__init__" "Blocked.__init__" (defArgs sBlocked_init) (defBody sBlocked_init) (defScope sBlocked_init) .none kV dc pm an cd ct), sl⟩ ∧ PySem.W.codeIn K cd "Blocked.__init__" = true ∧ PySem.W.keepIn K (.ref f18) = true)
    (zI19 : IniX K C19 f19 "limit")
    (zF19 : ∃ oc od kV dc pm an cd ct sl, K.lookup f19 = some ⟨oc, od, .func (PySem.W.fnOf "__init__" "LimitExceeded.__init__" (defArgs sLimitExceeded_init) (defBody sLimitExceeded_init) (defScope sLimitExceeded_init) .none kV dc pm an cd ct), sl⟩ ∧ PySem.W.codeIn K cd "LimitExceeded.__init__" = true ∧ PySem.W.keepIn K (.ref f19) = true)
    (zI20 : IniX K C20 f20 "name")
    (zF20 : ∃ oc od kV dc pm an cd ct sl, K.lookup f20 = some ⟨oc, od, .func (PySem.W.fnOf "__init__" "UnknownName.__init__" (defArgs sUnknownName_init) (defBody sUnknownName_init) (defScope sUnknownName_init) .none kV dc pm an cd ct), sl⟩ ∧ PySem.W.codeIn K cd "UnknownName.__init__" = true ∧ PySem.W.keepIn K (.ref f20) = true)
    (zI21 : IniX K C21 f21 "user")
    (zF21 : ∃ oc od kV dc pm an cd ct sl, K.lookup f21 = some ⟨oc, od, .func (PySem.W.fnOf "__init__" "NothingToUndo.__init__" (defArgs sNothingToUndo_init) (defBody sNothingToUndo_init) (defScope sNothingToUndo_init) .none kV dc pm an cd ct), sl⟩ ∧ PySem.W.codeIn K cd "NothingToUndo.__init__" = true ∧ PySem.W.keepIn K (.ref f21) = true)
    (zn17 : PySem.W.excIn K C17 tailR "RuntimeError.__new__" = true)
    (zn22 : PySem.W.excIn K C22 tailV "ValueError.__new__" = true)
    (zcSp : PySem.W.specialIn K (.builtin "object.__class__") "__get__" = some (some (.builtin "getset_descriptor.__get__")))
    (zcTk : PySem.W.takesIn K (.builtin "object.__class__") = some true)
    : ∃ fd : FuncData, (∀ (s : Shared) (v : Value), BindsTo s fd ⟨[v], []⟩ [("_law_script", v)]) ∧ ∀ base : Heap, K.In base → base.Ns mainGlobals mg → FnG l.prog w K mg base CX0 7 fa fd ["_law_script"] (spLaw K) := by
  have e := hfa.symm.trans (PySem.W.mg_of X G zalaw)
  cases e
  have nn : ∀ x : Str, PySem.W.nsIn K mainGlobals x = some none → mg x = none := fun x h => PySem.W.mg_none_of X G h
  have B : Bx mg := ⟨nn _ znisinstance, nn _ znValueError, nn _ znRuntimeError, nn _ znOverflowError, nn _ znLookupError, nn _ znKeyError, nn _ znrange, nn _ znmax, nn _ znmin, nn _ znlen, nn _ znrepr, nn _ znenumerate⟩
  have Bu1 : Bu mg := ⟨nn _ znlen, nn _ znabs, nn _ znint⟩
  obtain ⟨fd0, F0, b0⟩ : ∃ fd, Fun K "__init__" "InvalidNumber.__init__" sInvNum f0 fd ∧ Binds K fd ["self", "value"] [] := by
    obtain ⟨_, _, _, _, _, _, _, _, _, l, c, k⟩ := zF0
    have F := fun_mk (st := sInvNum) l c k
    exact ⟨_, F, F.binds (ps := ["self", "value"]) fun _ _ _ _ _ _ us hl => match us, hl with | [_, _], _ => rfl⟩
  obtain ⟨fd1, F1, b1⟩ : ∃ fd, Fun K "__init__" "InvalidNet.__init__" sInvalidNet_init f1 fd ∧ Binds K fd ["self", "part"] [] := by
    obtain ⟨_, _, _, _, _, _, _, _, _, l, c, k⟩ := zF1
    have F := fun_mk (st := sInvalidNet_init) l c k
    exact ⟨_, F, F.binds (ps := ["self", "part"]) fun _ _ _ _ _ _ us hl => match us, hl with | [_, _], _ => rfl⟩
  obtain ⟨fd2, F2, b2⟩ : ∃ fd, Fun K "__init__" "InvalidPoint.__init__" sInvalidPoint_init f2 fd ∧ Binds K fd ["self", "value"] [] := by
    obtain ⟨_, _, _, _, _, _, _, _, _, l, c, k⟩ := zF2
    have F := fun_mk (st := sInvalidPoint_init) l c k
    exact ⟨_, F, F.binds (ps := ["self", "value"]) fun _ _ _ _ _ _ us hl => match us, hl with | [_, _], _ => rfl⟩
  obtain ⟨fd3, F3, b3⟩ : ∃ fd, Fun K "__init__" "InvalidLights.__init__" sInvalidLights_init f3 fd ∧ Binds K fd ["self", "index"] [] := by
    obtain ⟨_, _, _, _, _, _, _, _, _, l, c, k⟩ := zF3
    have F := fun_mk (st := sInvalidLights_init) l c k
    exact ⟨_, F, F.binds (ps := ["self", "index"]) fun _ _ _ _ _ _ us hl => match us, hl with | [_, _], _ => rfl⟩
  obtain ⟨fd4, F4, b4⟩ : ∃ fd, Fun K "__init__" "InvalidFuse.__init__" sInvalidFuse_init f4 fd ∧ Binds K fd ["self", "value"] [] := by
    obtain ⟨_, _, _, _, _, _, _, _, _, l, c, k⟩ := zF4
    have F := fun_mk (st := sInvalidFuse_init) l c k
    exact ⟨_, F, F.binds (ps := ["self", "value"]) fun _ _ _ _ _ _ us hl => match us, hl with | [_, _], _ => rfl⟩
  obtain ⟨fd5, F5, b5⟩ : ∃ fd, Fun K "__init__" "InvalidRules.__init__" sInvalidRules_init f5 fd ∧ Binds K fd ["self", "part"] [] := by
    obtain ⟨_, _, _, _, _, _, _, _, _, l, c, k⟩ := zF5
    have F := fun_mk (st := sInvalidRules_init) l c k
    exact ⟨_, F, F.binds (ps := ["self", "part"]) fun _ _ _ _ _ _ us hl => match us, hl with | [_, _], _ => rfl⟩
  obtain ⟨fd6, F6, b6⟩ : ∃ fd, Fun K "__init__" "InvalidJoin.__init__" sInvalidJoin_init f6 fd ∧ Binds K fd ["self", "value"] [] := by
    obtain ⟨_, _, _, _, _, _, _, _, _, l, c, k⟩ := zF6
    have F := fun_mk (st := sInvalidJoin_init) l c k
    exact ⟨_, F, F.binds (ps := ["self", "value"]) fun _ _ _ _ _ _ us hl => match us, hl with | [_, _], _ => rfl⟩
  obtain ⟨fd7, F7, b7⟩ : ∃ fd, Fun K "__init__" "InvalidObservations.__init__" sInvalidObservations_init f7 fd ∧ Binds K fd ["self", "value"] [] := by
    obtain ⟨_, _, _, _, _, _, _, _, _, l, c, k⟩ := zF7
    have F := fun_mk (st := sInvalidObservations_init) l c k
    exact ⟨_, F, F.binds (ps := ["self", "value"]) fun _ _ _ _ _ _ us hl => match us, hl with | [_, _], _ => rfl⟩
  obtain ⟨fd8, F8, b8⟩ : ∃ fd, Fun K "__init__" "InvalidName.__init__" sInvalidName_init f8 fd ∧ Binds K fd ["self", "value"] [] := by
    obtain ⟨_, _, _, _, _, _, _, _, _, l, c, k⟩ := zF8
    have F := fun_mk (st := sInvalidName_init) l c k
    exact ⟨_, F, F.binds (ps := ["self", "value"]) fun _ _ _ _ _ _ us hl => match us, hl with | [_, _], _ => rfl⟩
  obtain ⟨fd9, F9, b9⟩ : ∃ fd, Fun K "__init__" "InvalidAction.__init__" sInvalidAction_init f9 fd ∧ Binds K fd ["self", "value"] [] := by
    obtain ⟨_, _, _, _, _, _, _, _, _, l, c, k⟩ := zF9
    have F := fun_mk (st := sInvalidAction_init) l c k
    exact ⟨_, F, F.binds (ps := ["self", "value"]) fun _ _ _ _ _ _ us hl => match us, hl with | [_, _], _ => rfl⟩
  obtain ⟨fd10, F10, b10⟩ : ∃ fd, Fun K "__init__" "InvalidText.__init__" sInvalidText_init f10 fd ∧ Binds K fd ["self", "index"] [] := by
    obtain ⟨_, _, _, _, _, _, _, _, _, l, c, k⟩ := zF10
    have F := fun_mk (st := sInvalidText_init) l c k
    exact ⟨_, F, F.binds (ps := ["self", "index"]) fun _ _ _ _ _ _ us hl => match us, hl with | [_, _], _ => rfl⟩
  obtain ⟨fd11, F11, b11⟩ : ∃ fd, Fun K "__init__" "InvalidCommand.__init__" sInvalidCommand_init f11 fd ∧ Binds K fd ["self", "value"] [] := by
    obtain ⟨_, _, _, _, _, _, _, _, _, l, c, k⟩ := zF11
    have F := fun_mk (st := sInvalidCommand_init) l c k
    exact ⟨_, F, F.binds (ps := ["self", "value"]) fun _ _ _ _ _ _ us hl => match us, hl with | [_, _], _ => rfl⟩
  obtain ⟨fd12, F12, b12⟩ : ∃ fd, Fun K "__init__" "InvalidLengths.__init__" sInvalidLengths_init f12 fd ∧ Binds K fd ["self", "value"] [] := by
    obtain ⟨_, _, _, _, _, _, _, _, _, l, c, k⟩ := zF12
    have F := fun_mk (st := sInvalidLengths_init) l c k
    exact ⟨_, F, F.binds (ps := ["self", "value"]) fun _ _ _ _ _ _ us hl => match us, hl with | [_, _], _ => rfl⟩
  obtain ⟨fd13, F13, b13⟩ : ∃ fd, Fun K "__init__" "InvalidPrices.__init__" sInvalidPrices_init f13 fd ∧ Binds K fd ["self", "value"] [] := by
    obtain ⟨_, _, _, _, _, _, _, _, _, l, c, k⟩ := zF13
    have F := fun_mk (st := sInvalidPrices_init) l c k
    exact ⟨_, F, F.binds (ps := ["self", "value"]) fun _ _ _ _ _ _ us hl => match us, hl with | [_, _], _ => rfl⟩
  obtain ⟨fd14, F14, b14⟩ : ∃ fd, Fun K "__init__" "InvalidNodes.__init__" sInvalidNodes_init f14 fd ∧ Binds K fd ["self", "value"] [] := by
    obtain ⟨_, _, _, _, _, _, _, _, _, l, c, k⟩ := zF14
    have F := fun_mk (st := sInvalidNodes_init) l c k
    exact ⟨_, F, F.binds (ps := ["self", "value"]) fun _ _ _ _ _ _ us hl => match us, hl with | [_, _], _ => rfl⟩
  obtain ⟨fd15, F15, b15⟩ : ∃ fd, Fun K "__init__" "InvalidProgram.__init__" sInvalidProgram_init f15 fd ∧ Binds K fd ["self", "index"] [] := by
    obtain ⟨_, _, _, _, _, _, _, _, _, l, c, k⟩ := zF15
    have F := fun_mk (st := sInvalidProgram_init) l c k
    exact ⟨_, F, F.binds (ps := ["self", "index"]) fun _ _ _ _ _ _ us hl => match us, hl with | [_, _], _ => rfl⟩
  obtain ⟨fd16, F16, b16⟩ : ∃ fd, Fun K "__init__" "NameTaken.__init__" sNameTaken_init f16 fd ∧ Binds K fd ["self", "name"] [] := by
    obtain ⟨_, _, _, _, _, _, _, _, _, l, c, k⟩ := zF16
    have F := fun_mk (st := sNameTaken_init) l c k
    exact ⟨_, F, F.binds (ps := ["self", "name"]) fun _ _ _ _ _ _ us hl => match us, hl with | [_, _], _ => rfl⟩
  obtain ⟨fd18, F18, b18⟩ : ∃ fd, Fun K "__init__" "Blocked.__init__" sBlocked_init f18 fd ∧ Binds K fd ["self", "index"] [] := by
    obtain ⟨_, _, _, _, _, _, _, _, _, l, c, k⟩ := zF18
    have F := fun_mk (st := sBlocked_init) l c k
    exact ⟨_, F, F.binds (ps := ["self", "index"]) fun _ _ _ _ _ _ us hl => match us, hl with | [_, _], _ => rfl⟩
  obtain ⟨fd19, F19, b19⟩ : ∃ fd, Fun K "__init__" "LimitExceeded.__init__" sLimitExceeded_init f19 fd ∧ Binds K fd ["self", "limit"] [] := by
    obtain ⟨_, _, _, _, _, _, _, _, _, l, c, k⟩ := zF19
    have F := fun_mk (st := sLimitExceeded_init) l c k
    exact ⟨_, F, F.binds (ps := ["self", "limit"]) fun _ _ _ _ _ _ us hl => match us, hl with | [_, _], _ => rfl⟩
  obtain ⟨fd20, F20, b20⟩ : ∃ fd, Fun K "__init__" "UnknownName.__init__" sUnknownName_init f20 fd ∧ Binds K fd ["self", "name"] [] := by
    obtain ⟨_, _, _, _, _, _, _, _, _, l, c, k⟩ := zF20
    have F := fun_mk (st := sUnknownName_init) l c k
    exact ⟨_, F, F.binds (ps := ["self", "name"]) fun _ _ _ _ _ _ us hl => match us, hl with | [_, _], _ => rfl⟩
  obtain ⟨fd21, F21, b21⟩ : ∃ fd, Fun K "__init__" "NothingToUndo.__init__" sNothingToUndo_init f21 fd ∧ Binds K fd ["self", "user"] [] := by
    obtain ⟨_, _, _, _, _, _, _, _, _, l, c, k⟩ := zF21
    have F := fun_mk (st := sNothingToUndo_init) l c k
    exact ⟨_, F, F.binds (ps := ["self", "user"]) fun _ _ _ _ _ _ us hl => match us, hl with | [_, _], _ => rfl⟩
  have L : ∀ i, i < 23 → ClsL K ((fun i : Nat => [C0, C1, C2, C3, C4, C5, C6, C7, C8, C9, C10, C11, C12, C13, C14, C15, C16, C17, C18, C19, C20, C21, C22].getD i 0) i) (nm i) (mroY (fun i : Nat => [C0, C1, C2, C3, C4, C5, C6, C7, C8, C9, C10, C11, C12, C13, C14, C15, C16, C17, C18, C19, C20, C21, C22].getD i 0) i) (newY' i) := fun i hi => match i, hi with | 0, _ => zL0 | 1, _ => zL1 | 2, _ => zL2 | 3, _ => zL3 | 4, _ => zL4 | 5, _ => zL5 | 6, _ => zL6 | 7, _ => zL7 | 8, _ => zL8 | 9, _ => zL9 | 10, _ => zL10 | 11, _ => zL11 | 12, _ => zL12 | 13, _ => zL13 | 14, _ => zL14 | 15, _ => zL15 | 16, _ => zL16 | 17, _ => zL17 | 18, _ => zL18 | 19, _ => zL19 | 20, _ => zL20 | 21, _ => zL21 | 22, _ => zL22 | n + 23, h => absurd h (by omega)
  have Xc : ∀ i, i < 23 → ClsX K ((fun i : Nat => [C0, C1, C2, C3, C4, C5, C6, C7, C8, C9, C10, C11, C12, C13, C14, C15, C16, C17, C18, C19, C20, C21, C22].getD i 0) i) := fun i hi => match i, hi with | 0, _ => zX0 | 1, _ => zX1 | 2, _ => zX2 | 3, _ => zX3 | 4, _ => zX4 | 5, _ => zX5 | 6, _ => zX6 | 7, _ => zX7 | 8, _ => zX8 | 9, _ => zX9 | 10, _ => zX10 | 11, _ => zX11 | 12, _ => zX12 | 13, _ => zX13 | 14, _ => zX14 | 15, _ => zX15 | 16, _ => zX16 | 17, _ => zX17 | 18, _ => zX18 | 19, _ => zX19 | 20, _ => zX20 | 21, _ => zX21 | 22, _ => zX22 | n + 23, h => absurd h (by omega)
  have Xi : ∀ i, own i = true → IniX K ((fun i : Nat => [C0, C1, C2, C3, C4, C5, C6, C7, C8, C9, C10, C11, C12, C13, C14, C15, C16, C17, C18, C19, C20, C21, C22].getD i 0) i) ((fun i : Nat => [f0, f1, f2, f3, f4, f5, f6, f7, f8, f9, f10, f11, f12, f13, f14, f15, f16, 0, f18, f19, f20, f21].getD i 0) i) (fl i) := fun i hi => match i, hi with | 0, _ => zI0 | 1, _ => zI1 | 2, _ => zI2 | 3, _ => zI3 | 4, _ => zI4 | 5, _ => zI5 | 6, _ => zI6 | 7, _ => zI7 | 8, _ => zI8 | 9, _ => zI9 | 10, _ => zI10 | 11, _ => zI11 | 12, _ => zI12 | 13, _ => zI13 | 14, _ => zI14 | 15, _ => zI15 | 16, _ => zI16 | 17, h => absurd h (by decide) | 18, _ => zI18 | 19, _ => zI19 | 20, _ => zI20 | 21, _ => zI21 | n + 22, h => absurd h (by simp [own])
  have g : ∀ i, i < 23 → mg (nm i) = some (.ref ((fun i : Nat => [C0, C1, C2, C3, C4, C5, C6, C7, C8, C9, C10, C11, C12, C13, C14, C15, C16, C17, C18, C19, C20, C21, C22].getD i 0) i)) := fun i hi => match i, hi with | 0, _ => PySem.W.mg_of X G zaC0 | 1, _ => PySem.W.mg_of X G zaC1 | 2, _ => PySem.W.mg_of X G zaC2 | 3, _ => PySem.W.mg_of X G zaC3 | 4, _ => PySem.W.mg_of X G zaC4 | 5, _ => PySem.W.mg_of X G zaC5 | 6, _ => PySem.W.mg_of X G zaC6 | 7, _ => PySem.W.mg_of X G zaC7 | 8, _ => PySem.W.mg_of X G zaC8 | 9, _ => PySem.W.mg_of X G zaC9 | 10, _ => PySem.W.mg_of X G zaC10 | 11, _ => PySem.W.mg_of X G zaC11 | 12, _ => PySem.W.mg_of X G zaC12 | 13, _ => PySem.W.mg_of X G zaC13 | 14, _ => PySem.W.mg_of X G zaC14 | 15, _ => PySem.W.mg_of X G zaC15 | 16, _ => PySem.W.mg_of X G zaC16 | 17, _ => PySem.W.mg_of X G zaC17 | 18, _ => PySem.W.mg_of X G zaC18 | 19, _ => PySem.W.mg_of X G zaC19 | 20, _ => PySem.W.mg_of X G zaC20 | 21, _ => PySem.W.mg_of X G zaC21 | 22, _ => PySem.W.mg_of X G zaC22 | n + 23, h => absurd h (by omega)
  have TY := errY_of L Xc Xi g
  have Fpool := fun_mk (st := sPool) zlpool zcpool zkpool
  have bpool := Fpool.binds (ps := ["_law_script", "_law_k"]) fun _ _ _ _ _ _ us hl => match us, hl with | [_, _], _ => rfl
  have Ftake := fun_mk (st := sTake) zltake zctake zktake
  have btake := Ftake.binds (ps := ["_law_pool_here", "_law_many"]) fun _ _ _ _ _ _ us hl => match us, hl with | [_, _], _ => rfl
  have Fkin := fun_mk (st := s_law_kinds) zlkin zckin zkkin
  have bkin := Fkin.binds (ps := ["_law_e"]) fun _ _ _ _ _ _ us hl => match us, hl with | [_], _ => rfl
  have Fbas := fun_mk (st := s_law_bases) zlbas zcbas zkbas
  have bbas := Fbas.binds (ps := ["_law_e"]) fun _ _ _ _ _ _ us hl => match us, hl with | [_], _ => rfl
  have Fmad := fun_mk (st := s_law_made) zlmad zcmad zkmad
  have bmad := Fmad.binds (ps := ["_law_value"]) fun _ _ _ _ _ _ us hl => match us, hl with | [_], _ => rfl
  have Ffie := fun_mk (st := s_law_fields) zlfie zcfie zkfie
  have bfie := Ffie.binds (ps := ["_law_made_here"]) fun _ _ _ _ _ _ us hl => match us, hl with | [_], _ => rfl
  have Frai := fun_mk (st := sRaised) zlrai zcrai zkrai
  have brai := Frai.binds (ps := ["_law_value", "_law_kind"]) fun _ _ _ _ _ _ us hl => match us, hl with | [_, _], _ => rfl
  have Flaw := fun_mk (st := sLaw) zllaw zclaw zklaw
  refine ⟨PySem.W.fnOf "law" "law" (defArgs sLaw) (defBody sLaw) (defScope sLaw) .none kVlaw dclaw pmlaw anlaw cdlaw ctlaw, fun s v => .of_eq rfl, fun base _ _ => ?_⟩
  have ok : ∀ i, own i = true → FnOk l.prog w K mg base CX0 1 ((fun i : Nat => [f0, f1, f2, f3, f4, f5, f6, f7, f8, f9, f10, f11, f12, f13, f14, f15, f16, 0, f18, f19, f20, f21].getD i 0) i) ((fun i : Nat => [fd0, fd1, fd2, fd3, fd4, fd5, fd6, fd7, fd8, fd9, fd10, fd11, fd12, fd13, fd14, fd15, fd16, fd0, fd18, fd19, fd20, fd21].getD i fd0) i) ["self", fl i] (spX ((fun i : Nat => [C0, C1, C2, C3, C4, C5, C6, C7, C8, C9, C10, C11, C12, C13, C14, C15, C16, C17, C18, C19, C20, C21, C22].getD i 0) i) (fl i)) := fun i hi => match i, hi with | 0, _ => ok_yinit F0 (TY 0 rfl) rfl ⟨rfl, rfl, rfl, by decide +kernel, rfl, by decide +kernel, by decide +kernel⟩ (fun env => rfl) (.inl rfl) (.inl rfl) (by decide) (by decide) | 1, _ => ok_yinit F1 (TY 1 rfl) rfl ⟨rfl, rfl, rfl, by decide +kernel, rfl, by decide +kernel, by decide +kernel⟩ (fun env => rfl) (.inl rfl) (.inl rfl) (by decide) (by decide) | 2, _ => ok_yinit F2 (TY 2 rfl) rfl ⟨rfl, rfl, rfl, by decide +kernel, rfl, by decide +kernel, by decide +kernel⟩ (fun env => rfl) (.inl rfl) (.inl rfl) (by decide) (by decide) | 3, _ => ok_yinit F3 (TY 3 rfl) rfl ⟨rfl, rfl, rfl, by decide +kernel, rfl, by decide +kernel, by decide +kernel⟩ (fun env => rfl) (.inl rfl) (.inl rfl) (by decide) (by decide) | 4, _ => ok_yinit F4 (TY 4 rfl) rfl ⟨rfl, rfl, rfl, by decide +kernel, rfl, by decide +kernel, by decide +kernel⟩ (fun env => rfl) (.inl rfl) (.inl rfl) (by decide) (by decide) | 5, _ => ok_yinit F5 (TY 5 rfl) rfl ⟨rfl, rfl, rfl, by decide +kernel, rfl, by decide +kernel, by decide +kernel⟩ (fun env => rfl) (.inl rfl) (.inl rfl) (by decide) (by decide) | 6, _ => ok_yinit F6 (TY 6 rfl) rfl ⟨rfl, rfl, rfl, by decide +kernel, rfl, by decide +kernel, by decide +kernel⟩ (fun env => rfl) (.inl rfl) (.inl rfl) (by decide) (by decide) | 7, _ => ok_yinit F7 (TY 7 rfl) rfl ⟨rfl, rfl, rfl, by decide +kernel, rfl, by decide +kernel, by decide +kernel⟩ (fun env => rfl) (.inl rfl) (.inl rfl) (by decide) (by decide) | 8, _ => ok_yinit F8 (TY 8 rfl) rfl ⟨rfl, rfl, rfl, by decide +kernel, rfl, by decide +kernel, by decide +kernel⟩ (fun env => rfl) (.inl rfl) (.inl rfl) (by decide) (by decide) | 9, _ => ok_yinit F9 (TY 9 rfl) rfl ⟨rfl, rfl, rfl, by decide +kernel, rfl, by decide +kernel, by decide +kernel⟩ (fun env => rfl) (.inl rfl) (.inl rfl) (by decide) (by decide) | 10, _ => ok_yinit F10 (TY 10 rfl) rfl ⟨rfl, rfl, rfl, by decide +kernel, rfl, by decide +kernel, by decide +kernel⟩ (fun env => rfl) (.inl rfl) (.inl rfl) (by decide) (by decide) | 11, _ => ok_yinit F11 (TY 11 rfl) rfl ⟨rfl, rfl, rfl, by decide +kernel, rfl, by decide +kernel, by decide +kernel⟩ (fun env => rfl) (.inl rfl) (.inl rfl) (by decide) (by decide) | 12, _ => ok_yinit F12 (TY 12 rfl) rfl ⟨rfl, rfl, rfl, by decide +kernel, rfl, by decide +kernel, by decide +kernel⟩ (fun env => rfl) (.inl rfl) (.inl rfl) (by decide) (by decide) | 13, _ => ok_yinit F13 (TY 13 rfl) rfl ⟨rfl, rfl, rfl, by decide +kernel, rfl, by decide +kernel, by decide +kernel⟩ (fun env => rfl) (.inl rfl) (.inl rfl) (by decide) (by decide) | 14, _ => ok_yinit F14 (TY 14 rfl) rfl ⟨rfl, rfl, rfl, by decide +kernel, rfl, by decide +kernel, by decide +kernel⟩ (fun env => rfl) (.inl rfl) (.inl rfl) (by decide) (by decide) | 15, _ => ok_yinit F15 (TY 15 rfl) rfl ⟨rfl, rfl, rfl, by decide +kernel, rfl, by decide +kernel, by decide +kernel⟩ (fun env => rfl) (.inl rfl) (.inl rfl) (by decide) (by decide) | 16, _ => ok_yinit F16 (TY 16 rfl) rfl ⟨rfl, rfl, rfl, by decide +kernel, rfl, by decide +kernel, by decide +kernel⟩ (fun env => rfl) (.inl rfl) (.inl rfl) (by decide) (by decide) | 17, h => absurd h (by decide) | 18, _ => ok_yinit F18 (TY 18 rfl) rfl ⟨rfl, rfl, rfl, by decide +kernel, rfl, by decide +kernel, by decide +kernel⟩ (fun env => rfl) (.inl rfl) (.inl rfl) (by decide) (by decide) | 19, _ => ok_yinit F19 (TY 19 rfl) rfl ⟨rfl, rfl, rfl, by decide +kernel, rfl, by decide +kernel, by decide +kernel⟩ (fun env => rfl) (.inl rfl) (.inl rfl) (by decide) (by decide) | 20, _ => ok_yinit F20 (TY 20 rfl) rfl ⟨rfl, rfl, rfl, by decide +kernel, rfl, by decide +kernel, by decide +kernel⟩ (fun env => rfl) (.inl rfl) (.inl rfl) (by decide) (by decide) | 21, _ => ok_yinit F21 (TY 21 rfl) rfl ⟨rfl, rfl, rfl, by decide +kernel, rfl, by decide +kernel, by decide +kernel⟩ (fun env => rfl) (.inl rfl) (.inl rfl) (by decide) (by decide) | n + 22, h => absurd h (by simp [own])
  have bb : ∀ i, own i = true → Binds K ((fun i : Nat => [fd0, fd1, fd2, fd3, fd4, fd5, fd6, fd7, fd8, fd9, fd10, fd11, fd12, fd13, fd14, fd15, fd16, fd0, fd18, fd19, fd20, fd21].getD i fd0) i) ["self", fl i] [] := fun i hi => match i, hi with | 0, _ => b0 | 1, _ => b1 | 2, _ => b2 | 3, _ => b3 | 4, _ => b4 | 5, _ => b5 | 6, _ => b6 | 7, _ => b7 | 8, _ => b8 | 9, _ => b9 | 10, _ => b10 | 11, _ => b11 | 12, _ => b12 | 13, _ => b13 | 14, _ => b14 | 15, _ => b15 | 16, _ => b16 | 17, h => absurd h (by decide) | 18, _ => b18 | 19, _ => b19 | 20, _ => b20 | 21, _ => b21 | n + 22, h => absurd h (by simp [own])
  have S : ErrS l.prog w K mg base (fun i : Nat => [C0, C1, C2, C3, C4, C5, C6, C7, C8, C9, C10, C11, C12, C13, C14, C15, C16, C17, C18, C19, C20, C21, C22].getD i 0) (fun i : Nat => [f0, f1, f2, f3, f4, f5, f6, f7, f8, f9, f10, f11, f12, f13, f14, f15, f16, 0, f18, f19, f20, f21].getD i 0) (fun i : Nat => [fd0, fd1, fd2, fd3, fd4, fd5, fd6, fd7, fd8, fd9, fd10, fd11, fd12, fd13, fd14, fd15, fd16, fd0, fd18, fd19, fd20, fd21].getD i fd0) := errS_of L Xc Xi g zcSp zcTk ok bb zn17 zn22
  have Gpool : Def l.prog w K mg base CX0 1 "_law_pool" ["_law_script", "_law_k"] (spPool K) fpool _ := ⟨ok_pool Fpool Bu1, PySem.W.mg_of X G zapool, zkpool, bpool⟩
  have Gtake : Def l.prog w K mg base CX0 1 "_law_take" ["_law_pool_here", "_law_many"] spTake ftake _ := ⟨ok_take Ftake, PySem.W.mg_of X G zatake, zktake, btake⟩
  have Gkin : Def l.prog w K mg base CX0 1 "_law_kinds" ["_law_e"] (spKinds (fun i : Nat => [C0, C1, C2, C3, C4, C5, C6, C7, C8, C9, C10, C11, C12, C13, C14, C15, C16, C17, C18, C19, C20, C21, C22].getD i 0)) fkin _ := ⟨ok_kinds Fkin B S, PySem.W.mg_of X G zakin, zkkin, bkin⟩
  have Gbas : Def l.prog w K mg base CX0 1 "_law_bases" ["_law_e"] (spBases (fun i : Nat => [C0, C1, C2, C3, C4, C5, C6, C7, C8, C9, C10, C11, C12, C13, C14, C15, C16, C17, C18, C19, C20, C21, C22].getD i 0)) fbas _ := ⟨ok_bases Fbas B S, PySem.W.mg_of X G zabas, zkbas, bbas⟩
  have Gmad : Def l.prog w K mg base CX0 3 "_law_made" ["_law_value"] (spMade (fun i : Nat => [C0, C1, C2, C3, C4, C5, C6, C7, C8, C9, C10, C11, C12, C13, C14, C15, C16, C17, C18, C19, C20, C21, C22].getD i 0)) fmad _ := ⟨ok_made Fmad S, PySem.W.mg_of X G zamad, zkmad, bmad⟩
  have Gfie : Def l.prog w K mg base CX0 1 "_law_fields" ["_law_made_here"] (spFields (fun i : Nat => [C0, C1, C2, C3, C4, C5, C6, C7, C8, C9, C10, C11, C12, C13, C14, C15, C16, C17, C18, C19, C20, C21, C22].getD i 0)) ffie _ := ⟨ok_fields Ffie S, PySem.W.mg_of X G zafie, zkfie, bfie⟩
  have Grai := ok_raised (P := l.prog) (w := w) (base := base) Frai B S
  exact ok_law Flaw B S Gpool Gtake Gkin Gbas Gmad Gfie Grai (PySem.W.mg_of X G zarai) zkrai brai
end Fu
open PySem PySem.W PyProof.Rows
set_option maxRecDepth 100000 in
set_option maxHeartbeats 0 in
theorem PySem.Challenge.cw_fusenets_k79_classes_of_errors_holds : PySem.Challenge.rw_fusenets_k79_classes_of_errors.Holds := by
  w_on; o_law; k_head; (case hw => w_witness2)
  k_fill
  refine Fu.walk_G (l := PySem.Challenge.rw_fusenets_k79_classes_of_errors) (n := 63) (k := 7) (sp := Fu.spLaw) (x := "_law_script") rfl (by decide) rfl ⟨⟨rfl, by decide, by decide⟩, rfl⟩ (fun w h Y => PySem.W.kIn_of Y) ?F (fun K H a ns hl _ hS => ⟨a, ns, rfl, hS, hl, fun _ => rfl⟩)
  case F =>
    intro w mg fa h KX G hmg
    refine' Fu.all_mk KX G hmg ?zaC0 ?zaC1 ?zaC2 ?zaC3 ?zaC4 ?zaC5 ?zaC6 ?zaC7 ?zaC8 ?zaC9 ?zaC10 ?zaC11 ?zaC12 ?zaC13 ?zaC14 ?zaC15 ?zaC16 ?zaC17 ?zaC18 ?zaC19 ?zaC20 ?zaC21 ?zaC22 ?zapool ?zlpool ?zcpool ?zkpool ?zatake ?zltake ?zctake ?zktake ?zakin ?zlkin ?zckin ?zkkin ?zabas ?zlbas ?zcbas ?zkbas ?zamad ?zlmad ?zcmad ?zkmad ?zafie ?zlfie ?zcfie ?zkfie ?zarai ?zlrai ?zcrai ?zkrai ?zalaw ?zllaw ?zclaw ?zklaw ?znisinstance ?znValueError ?znRuntimeError ?znOverflowError ?znLookupError ?znKeyError ?znrange ?znmax ?znmin ?znlen ?znrepr ?znenumerate ?znabs ?znint ?zL0 ?zX0 ?zL1 ?zX1 ?zL2 ?zX2 ?zL3 ?zX3 ?zL4 ?zX4 ?zL5 ?zX5 ?zL6 ?zX6 ?zL7 ?zX7 ?zL8 ?zX8 ?zL9 ?zX9 ?zL10 ?zX10 ?zL11 ?zX11 ?zL12 ?zX12 ?zL13 ?zX13 ?zL14 ?zX14 ?zL15 ?zX15 ?zL16 ?zX16 ?zL17 ?zX17 ?zL18 ?zX18 ?zL19 ?zX19 ?zL20 ?zX20 ?zL21 ?zX21 ?zL22 ?zX22 ?zI0 ?zF0 ?zI1 ?zF1 ?zI2 ?zF2 ?zI3 ?zF3 ?zI4 ?zF4 ?zI5 ?zF5 ?zI6 ?zF6 ?zI7 ?zF7 ?zI8 ?zF8 ?zI9 ?zF9 ?zI10 ?zF10 ?zI11 ?zF11 ?zI12 ?zF12 ?zI13 ?zF13 ?zI14 ?zF14 ?zI15 ?zF15 ?zI16 ?zF16 ?zI18 ?zF18 ?zI19 ?zF19 ?zI20 ?zF20 ?zI21 ?zF21 ?zn17 ?zn22 ?zcSp ?zcTk
    (case zaC0 => first | k_is | rfl)
    (case zaC1 => first | k_is | rfl)
    (case zaC2 => first | k_is | rfl)
    (case zaC3 => first | k_is | rfl)
    (case zaC4 => first | k_is | rfl)
    (case zaC5 => first | k_is | rfl)
    (case zaC6 => first | k_is | rfl)
    (case zaC7 => first | k_is | rfl)
    (case zaC8 => first | k_is | rfl)
    (case zaC9 => first | k_is | rfl)
    (case zaC10 => first | k_is | rfl)
    (case zaC11 => first | k_is | rfl)
    (case zaC12 => first | k_is | rfl)
    (case zaC13 => first | k_is | rfl)
    (case zaC14 => first | k_is | rfl)
    (case zaC15 => first | k_is | rfl)
    (case zaC16 => first | k_is | rfl)
    (case zaC17 => first | k_is | rfl)
    (case zaC18 => first | k_is | rfl)
    (case zaC19 => first | k_is | rfl)
    (case zaC20 => first | k_is | rfl)
    (case zaC21 => first | k_is | rfl)
    (case zaC22 => first | k_is | rfl)
    (case zapool => first | k_is | rfl)
    (case zlpool => first | k_is | rfl)
    (case zcpool => first | k_is | rfl)
    (case zkpool => first | k_is | rfl)
    (case zatake => first | k_is | rfl)
    (case zltake => first | k_is | rfl)
    (case zctake => first | k_is | rfl)
    (case zktake => first | k_is | rfl)
    (case zakin => first | k_is | rfl)
    (case zlkin => first | k_is | rfl)
    (case zckin => first | k_is | rfl)
    (case zkkin => first | k_is | rfl)
    (case zabas => first | k_is | rfl)
    (case zlbas => first | k_is | rfl)
    (case zcbas => first | k_is | rfl)
    (case zkbas => first | k_is | rfl)
    (case zamad => first | k_is | rfl)
    (case zlmad => first | k_is | rfl)
    (case zcmad => first | k_is | rfl)
    (case zkmad => first | k_is | rfl)
    (case zafie => first | k_is | rfl)
    (case zlfie => first | k_is | rfl)
    (case zcfie => first | k_is | rfl)
    (case zkfie => first | k_is | rfl)
    (case zarai => first | k_is | rfl)
    (case zlrai => first | k_is | rfl)
    (case zcrai => first | k_is | rfl)
    (case zkrai => first | k_is | rfl)
    (case zalaw => first | k_is | rfl)
    (case zllaw => first | k_is | rfl)
    (case zclaw => first | k_is | rfl)
    (case zklaw => first | k_is | rfl)
    (case znisinstance => first | k_is | rfl)
    (case znValueError => first | k_is | rfl)
    (case znRuntimeError => first | k_is | rfl)
    (case znOverflowError => first | k_is | rfl)
    (case znLookupError => first | k_is | rfl)
    (case znKeyError => first | k_is | rfl)
    (case znrange => first | k_is | rfl)
    (case znmax => first | k_is | rfl)
    (case znmin => first | k_is | rfl)
    (case znlen => first | k_is | rfl)
    (case znrepr => first | k_is | rfl)
    (case znenumerate => first | k_is | rfl)
    (case znabs => first | k_is | rfl)
    (case znint => first | k_is | rfl)
    (case zL0 => exact ⟨_, _, _, _, _, _, _, _, _, _, _, _, _, by k_is⟩)
    (case zX0 => exact ⟨by k_is, by k_is, by k_is, by k_is, by k_is⟩)
    (case zL1 => exact ⟨_, _, _, _, _, _, _, _, _, _, _, _, _, by k_is⟩)
    (case zX1 => exact ⟨by k_is, by k_is, by k_is, by k_is, by k_is⟩)
    (case zL2 => exact ⟨_, _, _, _, _, _, _, _, _, _, _, _, _, by k_is⟩)
    (case zX2 => exact ⟨by k_is, by k_is, by k_is, by k_is, by k_is⟩)
    (case zL3 => exact ⟨_, _, _, _, _, _, _, _, _, _, _, _, _, by k_is⟩)
    (case zX3 => exact ⟨by k_is, by k_is, by k_is, by k_is, by k_is⟩)
    (case zL4 => exact ⟨_, _, _, _, _, _, _, _, _, _, _, _, _, by k_is⟩)
    (case zX4 => exact ⟨by k_is, by k_is, by k_is, by k_is, by k_is⟩)
    (case zL5 => exact ⟨_, _, _, _, _, _, _, _, _, _, _, _, _, by k_is⟩)
    (case zX5 => exact ⟨by k_is, by k_is, by k_is, by k_is, by k_is⟩)
    (case zL6 => exact ⟨_, _, _, _, _, _, _, _, _, _, _, _, _, by k_is⟩)
    (case zX6 => exact ⟨by k_is, by k_is, by k_is, by k_is, by k_is⟩)
    (case zL7 => exact ⟨_, _, _, _, _, _, _, _, _, _, _, _, _, by k_is⟩)
    (case zX7 => exact ⟨by k_is, by k_is, by k_is, by k_is, by k_is⟩)
    (case zL8 => exact ⟨_, _, _, _, _, _, _, _, _, _, _, _, _, by k_is⟩)
    (case zX8 => exact ⟨by k_is, by k_is, by k_is, by k_is, by k_is⟩)
    (case zL9 => exact ⟨_, _, _, _, _, _, _, _, _, _, _, _, _, by k_is⟩)
    (case zX9 => exact ⟨by k_is, by k_is, by k_is, by k_is, by k_is⟩)
    (case zL10 => exact ⟨_, _, _, _, _, _, _, _, _, _, _, _, _, by k_is⟩)
    (case zX10 => exact ⟨by k_is, by k_is, by k_is, by k_is, by k_is⟩)
    (case zL11 => exact ⟨_, _, _, _, _, _, _, _, _, _, _, _, _, by k_is⟩)
    (case zX11 => exact ⟨by k_is, by k_is, by k_is, by k_is, by k_is⟩)
    (case zL12 => exact ⟨_, _, _, _, _, _, _, _, _, _, _, _, _, by k_is⟩)
    (case zX12 => exact ⟨by k_is, by k_is, by k_is, by k_is, by k_is⟩)
    (case zL13 => exact ⟨_, _, _, _, _, _, _, _, _, _, _, _, _, by k_is⟩)
    (case zX13 => exact ⟨by k_is, by k_is, by k_is, by k_is, by k_is⟩)
    (case zL14 => exact ⟨_, _, _, _, _, _, _, _, _, _, _, _, _, by k_is⟩)
    (case zX14 => exact ⟨by k_is, by k_is, by k_is, by k_is, by k_is⟩)
    (case zL15 => exact ⟨_, _, _, _, _, _, _, _, _, _, _, _, _, by k_is⟩)
    (case zX15 => exact ⟨by k_is, by k_is, by k_is, by k_is, by k_is⟩)
    (case zL16 => exact ⟨_, _, _, _, _, _, _, _, _, _, _, _, _, by k_is⟩)
    (case zX16 => exact ⟨by k_is, by k_is, by k_is, by k_is, by k_is⟩)
    (case zL17 => exact ⟨_, _, _, _, _, _, _, _, _, _, _, _, _, by k_is⟩)
    (case zX17 => exact ⟨by k_is, by k_is, by k_is, by k_is, by k_is⟩)
    (case zL18 => exact ⟨_, _, _, _, _, _, _, _, _, _, _, _, _, by k_is⟩)
    (case zX18 => exact ⟨by k_is, by k_is, by k_is, by k_is, by k_is⟩)
    (case zL19 => exact ⟨_, _, _, _, _, _, _, _, _, _, _, _, _, by k_is⟩)
    (case zX19 => exact ⟨by k_is, by k_is, by k_is, by k_is, by k_is⟩)
    (case zL20 => exact ⟨_, _, _, _, _, _, _, _, _, _, _, _, _, by k_is⟩)
    (case zX20 => exact ⟨by k_is, by k_is, by k_is, by k_is, by k_is⟩)
    (case zL21 => exact ⟨_, _, _, _, _, _, _, _, _, _, _, _, _, by k_is⟩)
    (case zX21 => exact ⟨by k_is, by k_is, by k_is, by k_is, by k_is⟩)
    (case zL22 => exact ⟨_, _, _, _, _, _, _, _, _, _, _, _, _, by k_is⟩)
    (case zX22 => exact ⟨by k_is, by k_is, by k_is, by k_is, by k_is⟩)
    (case zI0 => exact ⟨by k_is, by k_is, by k_is⟩)
    (case zF0 => exact ⟨_, _, _, _, _, _, _, _, _, by k_is, by k_is, by k_is⟩)
    (case zI1 => exact ⟨by k_is, by k_is, by k_is⟩)
    (case zF1 => exact ⟨_, _, _, _, _, _, _, _, _, by k_is, by k_is, by k_is⟩)
    (case zI2 => exact ⟨by k_is, by k_is, by k_is⟩)
    (case zF2 => exact ⟨_, _, _, _, _, _, _, _, _, by k_is, by k_is, by k_is⟩)
    (case zI3 => exact ⟨by k_is, by k_is, by k_is⟩)
    (case zF3 => exact ⟨_, _, _, _, _, _, _, _, _, by k_is, by k_is, by k_is⟩)
    (case zI4 => exact ⟨by k_is, by k_is, by k_is⟩)
    (case zF4 => exact ⟨_, _, _, _, _, _, _, _, _, by k_is, by k_is, by k_is⟩)
    (case zI5 => exact ⟨by k_is, by k_is, by k_is⟩)
    (case zF5 => exact ⟨_, _, _, _, _, _, _, _, _, by k_is, by k_is, by k_is⟩)
    (case zI6 => exact ⟨by k_is, by k_is, by k_is⟩)
    (case zF6 => exact ⟨_, _, _, _, _, _, _, _, _, by k_is, by k_is, by k_is⟩)
    (case zI7 => exact ⟨by k_is, by k_is, by k_is⟩)
    (case zF7 => exact ⟨_, _, _, _, _, _, _, _, _, by k_is, by k_is, by k_is⟩)
    (case zI8 => exact ⟨by k_is, by k_is, by k_is⟩)
    (case zF8 => exact ⟨_, _, _, _, _, _, _, _, _, by k_is, by k_is, by k_is⟩)
    (case zI9 => exact ⟨by k_is, by k_is, by k_is⟩)
    (case zF9 => exact ⟨_, _, _, _, _, _, _, _, _, by k_is, by k_is, by k_is⟩)
    (case zI10 => exact ⟨by k_is, by k_is, by k_is⟩)
    (case zF10 => exact ⟨_, _, _, _, _, _, _, _, _, by k_is, by k_is, by k_is⟩)
    (case zI11 => exact ⟨by k_is, by k_is, by k_is⟩)
    (case zF11 => exact ⟨_, _, _, _, _, _, _, _, _, by k_is, by k_is, by k_is⟩)
    (case zI12 => exact ⟨by k_is, by k_is, by k_is⟩)
    (case zF12 => exact ⟨_, _, _, _, _, _, _, _, _, by k_is, by k_is, by k_is⟩)
    (case zI13 => exact ⟨by k_is, by k_is, by k_is⟩)
    (case zF13 => exact ⟨_, _, _, _, _, _, _, _, _, by k_is, by k_is, by k_is⟩)
    (case zI14 => exact ⟨by k_is, by k_is, by k_is⟩)
    (case zF14 => exact ⟨_, _, _, _, _, _, _, _, _, by k_is, by k_is, by k_is⟩)
    (case zI15 => exact ⟨by k_is, by k_is, by k_is⟩)
    (case zF15 => exact ⟨_, _, _, _, _, _, _, _, _, by k_is, by k_is, by k_is⟩)
    (case zI16 => exact ⟨by k_is, by k_is, by k_is⟩)
    (case zF16 => exact ⟨_, _, _, _, _, _, _, _, _, by k_is, by k_is, by k_is⟩)
    (case zI18 => exact ⟨by k_is, by k_is, by k_is⟩)
    (case zF18 => exact ⟨_, _, _, _, _, _, _, _, _, by k_is, by k_is, by k_is⟩)
    (case zI19 => exact ⟨by k_is, by k_is, by k_is⟩)
    (case zF19 => exact ⟨_, _, _, _, _, _, _, _, _, by k_is, by k_is, by k_is⟩)
    (case zI20 => exact ⟨by k_is, by k_is, by k_is⟩)
    (case zF20 => exact ⟨_, _, _, _, _, _, _, _, _, by k_is, by k_is, by k_is⟩)
    (case zI21 => exact ⟨by k_is, by k_is, by k_is⟩)
    (case zF21 => exact ⟨_, _, _, _, _, _, _, _, _, by k_is, by k_is, by k_is⟩)
    (case zn17 => k_exc)
    (case zn22 => k_exc)
    (case zcSp => first | k_is | rfl)
    (case zcTk => first | k_is | rfl)
