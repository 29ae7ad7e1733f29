import PyProof.Rows.All
import Wide.All
import OpenK.AllK
import Wide.FinOn
import HandS.ForMost
import HandS.ForExc
import HandS.IsInst
import HandS.ExcInit
import HandS.ExcField
import HandS.ExcIs
import HandS.CallSlots
import HandS.HotCalls
import HandS.OwnEq
import HandS.Property
import HandS.Defaults
import HandS.Wide
import HandS.RaiseMore
import HandS.FStr
import HandS.TryMany
import HandS.Flow
import HandS.Evl
import KE.KExcIs
import PySem.Challenge.RW_fusenets_k10_ratios_calculated
import HandS.MakeKwOnly
import HandS.Style
import HandS.MakeKw
set_option Elab.async false
set_option linter.all false
set_option maxRecDepth 100000
set_option maxHeartbeats 4000000
/-! Rules that hold of any program: data by their shape, // of ints of any size, repr, ==. -/
namespace Fu
open PySem L2
open PyProof.Rows hiding St

/-- an if whose test is known -/
theorem if_true_of {c : Bool} {A B : Prop} (hc : c = true) (h : A) : if c = true then A else B := by
  rw [if_pos hc]
  exact h
theorem if_false_of {c : Bool} {A B : Prop} (hc : c = false) (h : B) : if c = true then A else B := by
  rw [hc, if_neg Bool.false_ne_true]
  exact h
/-! ### // of two ints, the divisor not 0 and below 2 ^ 9000 -/
section
variable {X : Cx}
theorem op_fdivB : OpR X (binaryOp .FloorDiv) (rI (fun _ j => j ≠ 0 ∧ j.natAbs.log2 < 9000) fun i j => .int (i.fdiv j)) := opI fun _ _ _ _ _ _ _ hc q => floordiv_int hc.1 q (.inl (PyProof.noPylong_of_log2 hc.2))
end

/-! ### data -/
inductive D where
  | non | bl (b : Bool) | int (i : Int) | str (x : Str) | lst (l : List D) | tup (l : List D) | dic | rat (n d : Int)

/-- the fields of a Ratio -/
def rf (n d : Int) : List (Str × V) := putF "own_bottom" (.int d) (putF "own_top" (.int n) [])

mutual
/-- v is the datum d in the heap H (C: the class of Ratios) -/
def At (C : Addr) (H : Hp) : D → V → Prop
  | .non, v => v = .non
  | .bl b, v => v = .bl b
  | .int i, v => v = .int i
  | .str x, v => v = .str x
  | .lst l, v => ∃ a xs, v = .ref a ∧ H a = some (.lst xs) ∧ Ats C H l xs
  | .tup l, v => ∃ a xs, v = .ref a ∧ H a = some (.tup xs) ∧ Ats C H l xs
  | .dic, v => ∃ a, v = .ref a ∧ H a = some (.dK [])
  | .rat n d, v => ∃ a dx, v = .ref a ∧ H a = some (.ins C dx (rf n d))
def Ats (C : Addr) (H : Hp) : List D → List V → Prop
  | [], xs => xs = []
  | d :: l, xs => ∃ x r, xs = x :: r ∧ At C H d x ∧ Ats C H l r
end
mutual
theorem At.ex {C : Addr} {H H' : Hp} (e : Same H H') : ∀ {d : D} {v : V}, At C H d v → At C H' d v
  | .non, _, h => h
  | .bl _, _, h => h
  | .int _, _, h => h
  | .str _, _, h => h
  | .lst l, _, h => by
    obtain ⟨a, xs, hv, ha, hs⟩ := h
    exact ⟨a, xs, hv, e _ _ ha, Ats.ex e hs⟩
  | .tup l, _, h => by
    obtain ⟨a, xs, hv, ha, hs⟩ := h
    exact ⟨a, xs, hv, e _ _ ha, Ats.ex e hs⟩
  | .dic, _, h => by
    obtain ⟨a, hv, ha⟩ := h
    exact ⟨a, hv, e _ _ ha⟩
  | .rat n d, _, h => by
    obtain ⟨a, dx, hv, ha⟩ := h
    exact ⟨a, dx, hv, e _ _ ha⟩
theorem Ats.ex {C : Addr} {H H' : Hp} (e : Same H H') : ∀ {l : List D} {xs : List V}, Ats C H l xs → Ats C H' l xs
  | [], _, h => h
  | d :: l, _, h => by
    obtain ⟨x, r, hx, h1, h2⟩ := h
    exact ⟨x, r, hx, At.ex e h1, Ats.ex e h2⟩
end

/-- the class of a datum -/
def tyD (C : Addr) : D → Value
  | .non => .type "NoneType"
  | .bl _ => .type "bool"
  | .int _ => .type "int"
  | .str _ => .type "str"
  | .lst _ => .type "list"
  | .tup _ => .type "tuple"
  | .dic => .type "dict"
  | .rat _ _ => .ref C

/-- what isinstance asks of an own class -/
structure ClsI (K : PySem.W.Frag) (C : Addr) : Prop where
  cl : Cls K C
  ha : PySem.W.findIn K (.ref C) "__class__" = some (some (.builtin "object.__class__"))
  hn : PySem.W.specialIn K (.builtin "object.__class__") "__get__" = some (some (.builtin "getset_descriptor.__get__"))
  htk : PySem.W.takesIn K (.builtin "object.__class__") = some true
  hm : PySem.W.mroIn K C (.type "object") = some true
theorem ty_at {K : PySem.W.Frag} {C : Addr} {H : Hp} (T : ClsI K C) : ∀ {d : D} {v : V}, At C H d v → TyX K H v (tyD C d)
  | .non, _, h => by cases (show _ = V.non from h); exact .base .non
  | .bl b, _, h => by cases (show _ = V.bl b from h); exact .base (.bl b)
  | .int i, _, h => by cases (show _ = V.int i from h); exact .base (.int i)
  | .str x, _, h => by cases (show _ = V.str x from h); exact .base (.str x)
  | .lst l, _, h => by
    obtain ⟨a, xs, rfl, ha, _⟩ := h
    exact .base (.lst ha)
  | .tup l, _, h => by
    obtain ⟨a, xs, rfl, ha, _⟩ := h
    exact .base (.tup ha)
  | .dic, _, h => by
    obtain ⟨a, rfl, ha⟩ := h
    exact .base (.dK ha)
  | .rat n d, _, h => by
    obtain ⟨a, dx, rfl, ha⟩ := h
    exact .base (.ins ha T.cl T.ha T.hn T.htk T.hm)
end Fu

/-! Own errors: class E(..): def __init__(self, f): self.f = f. Made and raised; a new instance whose __init__ may raise. -/
namespace Fu
open PySem L2
open PyProof.Rows hiding St
/-- the promise of such an __init__ -/
def spX (C : Addr) (f : Str) : Sp := fun vs H Q _ => ∃ (a : Addr) (v : V), vs = [.ref a, v] ∧ H a = some (exo a C none) ∧ ∀ dx, H dx = none → dx ≠ a → Q .non (upd (upd H dx (exd dx [(f, v)])) a (exo a C (some dx)))
/-- what the written part says of such a class -/
structure ErrC (K : PySem.W.Frag) (mg : Str → Option Value) (x f : Str) (C fI : Addr) : Prop where
  oex : OexC K C
  gC : mg x = some (.ref C)
  iC : PySem.W.findIn K (.ref C) "__init__" = some (some (.ref fI))
  tI : PySem.W.typeIn K (.ref fI) = some (.type "function")
  noF : PySem.W.findIn K (.ref C) f = some none
  xf : XfC K C
section
variable {X : Cx} {C fI : Addr} {x f : Str} {e : Expr} {ta : TA} {p pos : Pos} {k : Nat} {fd : FuncData}
/-- E(e) -/
def tMkX (C : Addr) (f : Str) (ta : TA) : St → Hp → XK → Prop := fun σ H Q => ta σ H fun vs H1 => ∃ v, vs = [v] ∧ ∀ d, H1 d = none → Q (.ref C) (some d) (upd H1 d (.xd [(f, v)]))
theorem pmk_mono {e : Expr} {t t' : St → Hp → XK → Prop} (h : PMk X e t) (m : ∀ σ H Q, t' σ H Q → t σ H Q) : PMk X e t' := fun pins s σ H Q I q => h pins s σ H Q I (m σ H Q q)
theorem mkX_of (hm : ∀ σ H (Q Q' : List V → Hp → Prop), (∀ vs H1, Q vs H1 → Q' vs H1) → ta σ H Q → ta σ H Q') (σ : St) (H : Hp) (Q : XK) (h : tMkX C f ta σ H Q) : tMkO C (spX C f) [] ta σ H Q := by
  refine hm σ H _ _ (fun vs H1 q => ?_) h
  obtain ⟨v, rfl, k⟩ := q
  refine ⟨(show 1 ≤ 1000 by decide), fun a ha => ?_⟩
  refine ⟨a, v, rfl, upd_same, fun dx hdx ne => ⟨rfl, dx, [(f, v)], upd_same, by rw [upd_ne ne, upd_same], ?_, ?_⟩⟩
  · rw [upd_ne ne] at hdx
    exact hdx
  · rw [upd_ne ne] at hdx
    have hh := k dx hdx
    have eq : upd (del (upd (upd (upd H1 a (exo a C none)) dx (exd dx [(f, v)])) a (exo a C (some dx))) a) dx (.xd [(f, v)]) = upd H1 dx (.xd [(f, v)]) := by
      funext b
      by_cases hb : b = dx
      · subst hb
        rw [upd_same, upd_same]
      · rw [upd_ne hb, upd_ne hb]
        by_cases hba : b = a
        · subst hba
          rw [del_same]
          exact ha.symm
        · rw [del_ne hba, upd_ne hba, upd_ne hb, upd_ne hba]
    rw [eq]
    exact hh
theorem tCons_mono {te : TE} (h : ∀ σ H (Q Q' : VK), (∀ v H1, Q v H1 → Q' v H1) → te σ H Q → te σ H Q') : ∀ σ H (Q Q' : List V → Hp → Prop), (∀ vs H1, Q vs H1 → Q' vs H1) → tCons te tNil σ H Q → tCons te tNil σ H Q' :=
  fun σ H _ _ m q => h σ H _ _ (fun v H1 z => m [v] H1 z) q
theorem tVar_mono (i : Nat) : ∀ σ H (Q Q' : VK), (∀ v H1, Q v H1 → Q' v H1) → tVar i σ H Q → tVar i σ H Q' := fun _ H _ _ m q => by
  obtain ⟨v, e, q⟩ := q
  exact ⟨v, e, m _ _ q⟩
theorem tC_mono (v : V) : ∀ σ H (Q Q' : VK), (∀ v H1, Q v H1 → Q' v H1) → tC v σ H Q → tC v σ H Q' := fun _ H _ _ m q => m _ _ q
/-- raise E(e) -/
def tRaiseX (C : Addr) (f : Str) (W : WX) (ta : TA) : TS := fun _ σ H => tMkX C f ta σ H fun cls d H' => W cls d σ H'
theorem ps_raiseX {CX : CXT} {te : TE} {W : WX} {pos2 : Pos} (hc : X.calm = true) (T : ErrC X.K X.mg x f C fI) (F1 : FnOk X.prog X.w X.K X.mg X.base CX k fI fd ["self", f] (spX C f)) (hr : Room (k + 1) X.A) (hb : Binds X.K fd ["self", f] [])
    (hx : Passes CX X (fun _ _ _ => False)) (tk : Takes X W) (ha : PE X e te) (hm : ∀ σ H (Q Q' : VK), (∀ v H1, Q v H1 → Q' v H1) → te σ H Q → te σ H Q') (hg : Gl X x := by rfl)
    (hs : starEach [e] X.env = (false, eval e X.env) :: starEach [] X.env := by rfl) (hdb : (x == ("__debug__" : Str)) = false := by decide) (hpl : (backTo pos (starEach [] X.env)).any (·.1) = false := by rfl) :
    PS X (.Raise (some (.Call (.Name x p) [e] [] pos)) none pos2) (tRaiseX C f W (tCons te tNil)) :=
  ps_raise hc tk (pmk_mono (pmk_oex T.oex T.iC T.tI F1 hr hb .nil hx hg T.gC (pa_cons ha pa_nil hs) hdb hs hpl) (mkX_of (tCons_mono hm)))
end
/-- the __init__ itself -/
theorem ok_xinit {P : Program} {w : World} {K : PySem.W.Frag} {mg : Str → Option Value} {base : Heap} {C fI : Addr} {x f qual : Str} {fd : FuncData} {st : Stmt} {p1 p2 p3 p4 : Pos} (F : Fun K "__init__" qual st fI fd) (T : ErrC K mg x f C fI)
    (hb : defBody st = [.Assign [.Attribute (.Name "self" p1) f p2] (.Name f p3) p4]) (sc : FnScope ["self", f] ["self", f] (defScope st))
    (hsw : ∀ (env : Env), swapsWith (.Name f p3) (some (.Attribute (.Name "self" p1) f p2)) p4.line env = pure false) (v0 : Vis (defScope st) "self") (v1 : Vis (defScope st) f) (d1 : (f == ("__debug__" : Str)) = false) (d2 : (f == ("__classdict__" : Str)) = false) :
    FnOk P w K mg base CX0 1 fI fd ["self", f] (spX C f) := by
  refine F.ok sc (fun vs H Q E h => ?_) (fun cdv A outer s H vs Q E hr h => ?_)
  · obtain ⟨a, v, rfl, _⟩ := h
    rfl
  · obtain ⟨a, v, rfl, ha, k⟩ := h
    rw [hb]
    refine ⟨_, pss_one (ps_ost (pe_var (i := 0) rfl v0) (pe_var (i := 1) rfl v1 d1 d2) (hsw _)), ?_⟩
    exact ⟨_, rfl, _, rfl, a, C, rfl, T.oex, T.noF, .inl ⟨ha, fun dx n ne => k dx n ne⟩⟩
end Fu

/-! A new instance, a method, whose code may raise: what is raised is wished for at the caller's slots. -/
namespace Fu
open PySem L2
open PyProof.Rows hiding St
section
variable {X : Cx} {CX : CXT} {k : Nat} {f C : Addr} {fd : FuncData} {ps : List Str} {sp : Sp} {dvs : List V} {ds : List Value} {E : St → XK} {x m : Str} {p pos apos : Pos} {e o : Expr} {es : List Expr} {ta : TE} {t : TA}
/-- what lies behind a raise in the callee, the new instance tracked -/
theorem run_makeS {pins : List (Addr × Obj)} {σ : St} {H : Hp} {s : Shared} {Q : VK} {us : List Value} {vs : List V} (M : Mk X.K C f) (F : FnOk X.prog X.w X.K X.mg X.base CX k f fd ps sp) (hr : Room (k + 1) X.A) (hb : Binds X.K fd ps ds) (hd : Vals dvs ds)
    (hx : PassesAt CX X σ (E σ)) (I : Inv X pins σ H s) (r : Vals vs us)
    (h : ∀ x dx, H x = none → H dx = none → dx ≠ x → sp (.ref x :: (vs ++ dvs)) (upd (upd H dx (.own x)) x (.ins C dx [])) (fun v H2 => v = .non ∧ Q (.ref x) H2) (E σ)) :
    wpAny (model X.prog X.w) X.A (call (.ref C) us) (EP X pins σ Q) X.xe s := by
  have hq := h (s.heap.objs.size + 1) s.heap.objs.size (I.hok.fresh (Nat.le_succ _)) (I.hok.fresh (Nat.le_refl _)) (Nat.ne_of_lt (Nat.lt_succ_self _))
  have I2 := Inv.made (C := C) I
  have r2 : Vals (V.ref (s.heap.objs.size + 1) :: (vs ++ dvs)) (Value.ref (s.heap.objs.size + 1) :: (us ++ ds)) := .cons rfl (r.append hd)
  have hl : (Value.ref (s.heap.objs.size + 1) :: us ++ ds).length = ps.length := by
    have e := r2.length
    rw [F.len _ _ _ _ hq] at e
    exact e.symm
  refine wpAny_call (make_map (f := f) I.kIn M.makes M.init (beq_iff_eq.mp M.fn) (codeAny_mono (F.run _ X.stack _ _ ⟨Value.ref (s.heap.objs.size + 1) :: us, []⟩ (Value.ref (s.heap.objs.size + 1) :: (us ++ ds)) _ _ (E σ) (hr.make C us [])
    (I2.env0.make C us []) (hb _ (Value.ref (s.heap.objs.size + 1) :: us) I2.kIn hl) r2 hq) fun r s' hq' => ?_))
  cases r with
  | error e => exact hx pins _ _ e s' I2 hq'
  | ok fl =>
    cases fl with
    | ret u =>
      obtain ⟨v, H', I3, rv, ev, q3⟩ := I2.after hq'
      subst ev
      exact ⟨rv, ⟨V.ref (s.heap.objs.size + 1), H', I3, rfl, q3⟩⟩
    | next => exact False.elim hq'
    | brk => exact False.elim hq'
    | cont => exact False.elim hq'
/-- C(e, ..) -/
def tMakeS (C : Addr) (sp : Sp) (dvs : List V) (E : St → XK) (t : TA) : TE := fun σ H Q => t σ H fun vs H1 => ∀ x dx, H1 x = none → H1 dx = none → dx ≠ x →
  sp (.ref x :: (vs ++ dvs)) (upd (upd H1 dx (.own x)) x (.ins C dx [])) (fun v H2 => v = .non ∧ Q (.ref x) H2) (E σ)
theorem pe_makeS (M : Mk X.K C f) (F : FnOk X.prog X.w X.K X.mg X.base CX k f fd ps sp) (hr : Room (k + 1) X.A) (hg : Gl X x) (hm : X.mg x = some (.ref C)) (hb : Binds X.K fd ps ds) (hd : Vals dvs ds) (hx : ∀ σ, PassesAt CX X σ (E σ))
    (ha : PA X (e :: es) t) (hdb : (x == ("__debug__" : Str)) = false := by decide) (he : starEach (e :: es) X.env = (false, eval e X.env) :: starEach es X.env := by rfl) (hpl : (backTo pos (starEach es X.env)).any (·.1) = false := by rfl) :
    PE X (.Call (.Name x p) (e :: es) [] pos) (tMakeS C sp dvs E t) := by
  refine ⟨fun pins s σ H Q I h => ?_⟩
  refine wpAny_Call_Name_kw (ld_glob I hg hm ?_ hdb)
  refine PySem.W.callWith_K (h₀ := X.base) I.ok.mod.kin M.kp (thn (ha.run pos pins s σ H _ I h) fun us s1 ⟨vs, H1, I1, r, q⟩ => ⟨I1.kIn, ?_⟩) he hpl
  exact run_makeS M F hr hb hd (hx σ) I1 r q
/-- o.m(e, ..) -/
def tMethS (C : Addr) (m : Str) (sp : Sp) (dvs : List V) (E : St → XK) (ta : TE) (t : TA) : TE := fun σ H Q => ta σ H fun x H1 => ∃ a dx fs, x = .ref a ∧ H1 a = some (.ins C dx fs) ∧ fs.lookup m = none ∧
  t σ H1 fun vs H2 => sp (x :: (vs ++ dvs)) H2 Q (E σ)
theorem pe_methS {pl : Sem Bool} (he : PE X o ta) (c : Cls X.K C) (hm : Meth X.K C m f) (F : FnOk X.prog X.w X.K X.mg X.base CX k f fd ps sp) (hr : Room k X.A) (hb : Binds X.K fd ps ds) (hd : Vals dvs ds) (hx : ∀ σ, PassesAt CX X σ (E σ)) (ha : PA X (e :: es) t)
    (hst : starEach (e :: es) X.env = (false, eval e X.env) :: starEach es X.env := by rfl) (hpl : (backTo pos (starEach es X.env)).any (·.1) = false := by rfl)
    (ht : eval (.Call (.Attribute o m apos) (e :: es) [] pos) X.env = (do
      let ov ← eval o X.env
      standAt apos.atName
      let (f, first) ← holding [ov] (getMethod ov m pl)
      callWith pos f first (backTo pos (starEach (e :: es) X.env)) (backToKw pos (keywordEach [] X.env))) := by rfl) :
    PE X (.Call (.Attribute o m apos) (e :: es) [] pos) (tMethS C m sp dvs E ta t) := by
  refine ⟨fun pins s σ H Q I h => ?_⟩
  refine PySem.W.methodCall_KW (pl := pl) (thn (he.run pins s σ H _ I h) fun u s1 ⟨x, H1, I1, rx, a, dx, fs, ex, ea, l, q⟩ => ?_) ht
  subst ex
  obtain rfl : u = Value.ref a := rx
  refine getmeth_ok I1 ea c hm l ?_
  refine PySem.W.callWith_K (first := [.ref a]) (h₀ := X.base) I.ok.mod.kin hm.kp (thn (ha.run pos pins s1 σ H1 _ I1 q) fun us s2 ⟨vs, H2, I2, r, q2⟩ => ⟨I2.kIn, ?_⟩) hst hpl
  exact run_fnSD (us := .ref a :: us) (vs := .ref a :: vs) F hr hb hd (hx σ) I2 (.cons rfl r) q2
end
/-! ### a def by its name -/
structure Def (P : Program) (w : World) (K : PySem.W.Frag) (mg : Str → Option Value) (base : Heap) (CX : CXT) (k : Nat) (x : Str) (ps : List Str) (sp : Sp) (f : Addr) (fd : FuncData) : Prop where
  ok : FnOk P w K mg base CX k f fd ps sp
  g : mg x = some (.ref f)
  kp : PySem.W.keepIn K (.ref f) = true
  b : Binds K fd ps []
section
variable {X : Cx} {CX : CXT} {k : Nat} {f C : Addr} {fd : FuncData} {ps : List Str} {sp : Sp} {E : St → XK} {x m : Str} {p pos apos : Pos} {e o : Expr} {es : List Expr} {ta : TE} {t : TA}
/-- f(e, ..), f lets nothing out -/
theorem pe_def (d : Def X.prog X.w X.K X.mg X.base CX0 k x ps sp f fd) (hr : Room k X.A) (ha : PA X (e :: es) t) (hg : Gl X x := by rfl) (hdb : (x == ("__debug__" : Str)) = false := by decide)
    (he : starEach (e :: es) X.env = (false, eval e X.env) :: starEach es X.env := by rfl) (hpl : (backTo pos (starEach es X.env)).any (·.1) = false := by rfl) : PE X (.Call (.Name x p) (e :: es) [] pos) (tCall sp [] E0 t) :=
  pe_call d.ok hr hg d.g d.kp d.b .nil pass0 ha hdb he hpl
/-- f(e, ..), f may raise; where nothing may be let out (the promise shows that it does not) -/
theorem pe_defL (d : Def X.prog X.w X.K X.mg X.base (L2.CX X.prog X.w) k x ps sp f fd) (hr : Room k X.A) (ha : PA X (e :: es) t) (hg : Gl X x := by rfl) (hdb : (x == ("__debug__" : Str)) = false := by decide)
    (he : starEach (e :: es) X.env = (false, eval e X.env) :: starEach es X.env := by rfl) (hpl : (backTo pos (starEach es X.env)).any (·.1) = false := by rfl) : PE X (.Call (.Name x p) (e :: es) [] pos) (tCall sp [] E0 t) :=
  pe_call d.ok hr hg d.g d.kp d.b .nil passL ha hdb he hpl
end
end Fu

/-! Comparisons of own instances by their own methods: x op y, y op x (reflected), x != y by __eq__. -/
namespace Fu
open PySem L2
open PyProof.Rows hiding St
section
variable {X : Cx} {CX : CXT} {k : Nat} {f C : Addr} {fd : FuncData} {ps : List Str} {sp : Sp} {E : XK}
/-- a callee's own value is never NotImplemented -/
theorem back_of {pins : List (Addr × Obj)} {σ : St} {Q : VK} {u : Value} {s' : Shared} (h : EP X pins σ Q u s') : PySem.W.CmpBack (EP X pins σ Q) u s' := by
  obtain ⟨v, H', I, r, q⟩ := id h
  cases v with
  | non => cases r; exact h
  | bl b => cases r; exact h
  | int i => obtain ⟨t, rfl⟩ := r; exact h
  | str x => obtain ⟨t, rfl⟩ := r; exact h
  | byt b => obtain ⟨t, rfl⟩ := r; exact h
  | flt b => obtain ⟨t, rfl⟩ := r; exact h
  | ref a => cases r; exact h
  | ty n => cases r; exact h
theorem inst_of {pins : List (Addr × Obj)} {σ : St} {H : Hp} {s : Shared} {a dx : Addr} {fs : List (Str × V)} (I : Inv X pins σ H s) (h : H a = some (.ins C dx fs)) : ∃ od, PySem.W.InstAt s.heap a (PySem.W.instObj C dx) C (some od) := by
  obtain ⟨mA, O, _⟩ := ins_get I.hok h
  obtain ⟨od, J, _⟩ := O.look
  exact ⟨od, J⟩
/-- x op y, x an own instance -/
def rOwn (K : PySem.W.Frag) (C : Addr) (sp : Sp) (E : XK) : R2 := fun x y H Q => ∃ a dx fs t, x = .ref a ∧ H a = some (.ins C dx fs) ∧ TyX K H y t ∧ PySem.W.notFirst K C t = true ∧ sp [.ref a, y] H Q E
theorem op_own {op : CmpOp} (F : FnOk X.prog X.w X.K X.mg X.base CX k f fd ps sp) (hr : Room k X.A) (hs : PySem.W.findIn X.K (.ref C) (cmpInfo op).2.1 = some (some (.ref f))) (hf : PySem.W.isFn X.K (.ref f) = true) (hb : Binds X.K fd ps []) (hx : Passes CX X E)
    (ho : ∀ a b, compareOp op a b = richCompare op a b) : OpR X (compareOp op) (rOwn X.K C sp E) := by
  intro pins s σ H x y u v Q I rx ry h
  obtain ⟨a, dx, fs, t, rfl, ha, ty, hn, q⟩ := h
  obtain rfl : u = Value.ref a := rx
  obtain ⟨od, J⟩ := inst_of I ha
  obtain ⟨P, Z, p, _⟩ := kit_of I ry ty
  obtain ⟨m, hF⟩ := I.fr
  rw [ho]
  refine PySem.W.cmp_K (op := op) (tb := t) hr.units0 hF I.ok.mod.kin J (Z.ty _ _ I.kIn p) hn hs hf ?_
  exact thn (run_fn (us := [.ref a, v]) (vs := [.ref a, y]) (dvs := []) (ds := []) F hr hb .nil hx I (.cons rfl (.cons ry .nil)) q) fun u s' h => back_of h
end
end Fu

/-! Defs that raise nothing, called wherever one stands (also while an exception is handled). -/
namespace Fu
open PySem L2
open PyProof.Rows hiding St
open L2H (RoomH roomH_of)
/-- the promise of a def, whatever is being handled -/
structure FnA (P : Program) (w : World) (K : PySem.W.Frag) (mg : Str → Option Value) (base : Heap) (k : Nat) (f : Addr) (fd : FuncData) (ps : List Str) (sp : Sp) : Prop where
  len : ∀ vs H Q E, sp vs H Q E → vs.length = ps.length
  run : ∀ (A : Around) (outer : List Env) (s : Shared) (H : Hp) (args : Args) (us : List Value) (vs : List V) (Q : VK) (E : XK), RoomH k A → Env0 P w K mg base A outer s H → BindsTo s fd args (ps.zip us) → Vals vs us → sp vs H Q E →
    codeAny (model P w) A (.call (.ref f) args) (CR CX0 outer P w H s Q E) s
section
variable {P : Program} {w : World} {K : PySem.W.Frag} {mg : Str → Option Value} {base : Heap} {k : Nat} {f : Addr} {fd : FuncData} {ps : List Str} {sp : Sp}
theorem FnA.calm (F : FnA P w K mg base k f fd ps sp) : FnOk P w K mg base CX0 k f fd ps sp := ⟨F.len, fun A outer s H args us vs Q E hr => F.run A outer s H args us vs Q E (roomH_of hr)⟩
/-- the context of such a def's body -/
abbrev cxA (P : Program) (w : World) (K : PySem.W.Frag) (mg : Str → Option Value) (base : Heap) (N : List Str) (qual : Str) (scope : Scope) (f : Addr) (cd : Value) (A : Around) (outer : List Env) (s : Shared) (H : Hp) (E : XK) : Cx :=
  { cxOf CX0 P w K mg base N qual scope f cd A outer s H E with calm := false, xe := fun _ _ => False }
/-- nothing but «what is handled» hangs on it -/
theorem inv_any {X Y : Cx} {pins : List (Addr × Obj)} {σ : St} {H : Hp} {s : Shared} (I : Inv X pins σ H s) (h1 : Y = { X with A := Y.A, calm := false, xe := Y.xe }) (h2 : Y.A.frames = some Y.stack) : Inv Y pins σ H s := by
  obtain ⟨⟨o1, o2, o3, o4, o5, o6, o7, o8, _, _, o11, o12, o13, o14, o15, o16, o17, o18⟩, i2, i3, i4, i5, i6, i7, i8, i9, i10, i11⟩ := I
  rw [h1] at h2 ⊢
  exact ⟨⟨o1, o2, o3, o4, o5, o6, o7, o8, fun z => Bool.noConfusion (show false = true from z), h2, o11, o12, o13, o14, o15, o16, o17, o18⟩, i2, i3, i4, i5, i6, i7, i8, i9, i10, i11⟩
theorem Env0.quiet {A : Around} {outer : List Env} {s : Shared} {H : Hp} (e : Env0 P w K mg base A outer s H) : Env0 P w K mg base { A with handled := none } outer s H := ⟨e.frames, e.mod, e.bs, e.bsz, e.funs, e.frf, e.hok, e.bare⟩
/-- a def by its body's reading there -/
theorem Fun.okA {x qual : Str} {st : Stmt} {N : List Str} (F : Fun K x qual st f fd) (S : FnScope N ps (defScope st)) (len : ∀ vs H Q E, sp vs H Q E → vs.length = ps.length)
    (hbody : ∀ (cdv : Value) (A : Around) (outer : List Env) (s : Shared) (H : Hp) (vs : List V) (Q : VK) (E : XK), RoomH k (A.deeper (envOfC qual (defScope st) s.heap.objs.size f cdv)) → sp vs H Q E →
      ∃ t, PSs (cxA P w K mg base N qual (defScope st) f cdv A outer s H E) (defBody st) t ∧ t { nx := fun _ H' => Q .non H', rt := Q } (L2.start N vs) H) : FnA P w K mg base (k + 1) f fd ps sp := by
  obtain ⟨oc, od, kV, doc, pm, an, cdv, ct, osl, rfl, lk, hcd⟩ := F.ex
  refine ⟨len, fun A outer s H args us vs Q E hr e0 hb r hsp => ?_⟩
  have KX := e0.mod.kin.keeps fun b o e => (e0.bs b o e).1
  refine codeAny_call_function hr.depth (KX _ _ lk) rfl S.co S.gen rfl (PySem.W.codeRec_of KX hcd) (hb _ _ _ _ (wpAny_newFunctionEnv_cells S.kind (fun z hz => ?_) fun env he s1 x => ?_))
  · rcases S.par z.1 (List.of_mem_zip hz).1 with q | q
    · exact .inl q
    · exact .inr ⟨q, PySem.W.cellsFrom_some _ _ _ (.inl q)⟩
  · subst he
    refine ⟨(e0.mod.nolimit.keeps fun b o e => (e0.bs b o e).1).keeps x.toInCall.keep, codeAny_func ?_⟩
    obtain ⟨t, ht, hq⟩ := hbody cdv A outer s H vs Q E (hr.deeper _) hsp
    have I0 := inv_start (CX := CX0) (E := E) S (A := { A with handled := none }) rfl (Env0.quiet e0) (len _ _ _ _ hsp) r x
    have I : Inv (cxA P w K mg base N qual (defScope st) f cdv A outer s H E) [] (L2.start N vs) H s1 := inv_any I0 rfl (Around.frames_deeper e0.frames)
    refine wpAny_mono (ht.run [] s1 _ H _ I hq) (fun fl s' hs => ?_) fun e s' hs => hs.elim
    cases fl with
    | ret u =>
      obtain ⟨v, _, H', J, rv, q⟩ := hs
      exact ⟨v, H', J.os, J.bare, J.base, J.hok, rv, q⟩
    | next =>
      obtain ⟨_, H', J, q⟩ := hs
      exact ⟨V.non, H', J.os, J.bare, J.base, J.hok, rfl, q⟩
    | brk =>
      obtain ⟨_, _, _, q⟩ := hs
      cases q
    | cont =>
      obtain ⟨_, _, _, q⟩ := hs
      cases q
end
/-- such a def runs, from anywhere -/
theorem run_any {X : Cx} {A : Around} {k : Nat} {f : Addr} {fd : FuncData} {ps : List Str} {sp : Sp} {pins : List (Addr × Obj)} {σ : St} {H : Hp} {s : Shared} {Q : VK} {E : XK} {us : List Value} {vs : List V} (F : FnA X.prog X.w X.K X.mg X.base k f fd ps sp)
    (hr : RoomH k A) (hf : A.frames = some X.stack) (hb : Binds X.K fd ps []) (I : Inv X pins σ H s) (r : Vals vs us) (h : sp vs H Q E) : wpAny (model X.prog X.w) A (call (.ref f) us) (EP X pins σ Q) X.xe s := by
  have e := I.env0
  have e0 : Env0 X.prog X.w X.K X.mg X.base A X.stack s H := ⟨hf, e.mod, e.bs, e.bsz, e.funs, e.frf, e.hok, e.bare⟩
  have b := hb s us I.kIn (by rw [List.append_nil, ← r.length]; exact F.len _ _ _ _ h)
  rw [List.append_nil] at b
  refine wpAny_call (codeAny_mono (F.run A X.stack s H ⟨us, []⟩ us vs Q E hr e0 b r h) fun z s' hq => ?_)
  cases z with
  | error e => cases hq
  | ok fl =>
    cases fl with
    | ret u => exact I.after hq
    | next => cases hq
    | brk => cases hq
    | cont => cases hq
end Fu

/-! Defs that are called where no repr is under way (so that repr of a list, a tuple, a dict may be told). -/
namespace Fu
open PySem L2
open PyProof.Rows hiding St
open L2H (RoomH roomH_of)
/-- room, and no repr under way -/
structure RoomG (k : Nat) (A : Around) : Prop where
  r : Room k A
  g : A.guards = some []
theorem RoomG.mono {j k : Nat} {A : Around} (h : RoomG k A) (e : j ≤ k) : RoomG j A := ⟨h.r.mono e, h.g⟩
theorem RoomG.deeper {k : Nat} {A : Around} (h : RoomG (k + 1) A) (env : Env) : RoomG k (A.deeper env) := ⟨h.r.deeper env, h.g⟩
/-- the promise of a def called there -/
structure FnG (P : Program) (w : World) (K : PySem.W.Frag) (mg : Str → Option Value) (base : Heap) (CX : CXT) (k : Nat) (f : Addr) (fd : FuncData) (ps : List Str) (sp : Sp) : Prop where
  len : ∀ vs H Q E, sp vs H Q E → vs.length = ps.length
  run : ∀ (A : Around) (outer : List Env) (s : Shared) (H : Hp) (args : Args) (us : List Value) (vs : List V) (Q : VK) (E : XK), RoomG k A → Env0 P w K mg base A outer s H → BindsTo s fd args (ps.zip us) → Vals vs us → sp vs H Q E →
    codeAny (model P w) A (.call (.ref f) args) (CR CX outer P w H s Q E) s
section
variable {P : Program} {w : World} {K : PySem.W.Frag} {mg : Str → Option Value} {base : Heap} {CX : CXT} {k : Nat} {f : Addr} {fd : FuncData} {ps : List Str} {sp : Sp}
theorem FnG.of (F : FnOk P w K mg base CX k f fd ps sp) : FnG P w K mg base CX k f fd ps sp := ⟨F.len, fun A outer s H args us vs Q E hr => F.run A outer s H args us vs Q E hr.r⟩
theorem Fun.okG {x qual : Str} {st : Stmt} {N : List Str} (F : Fun K x qual st f fd) (S : FnScope N ps (defScope st)) (len : ∀ vs H Q E, sp vs H Q E → vs.length = ps.length)
    (hbody : ∀ (cdv : Value) (A : Around) (outer : List Env) (s : Shared) (H : Hp) (vs : List V) (Q : VK) (E : XK), RoomG k (A.deeper (envOfC qual (defScope st) s.heap.objs.size f cdv)) → sp vs H Q E →
      ∃ t, PSs (cxOf CX P w K mg base N qual (defScope st) f cdv A outer s H E) (defBody st) t ∧ t { nx := fun _ H' => Q .non H', rt := Q } (L2.start N vs) H) : FnG P w K mg base CX (k + 1) f fd ps sp := by
  obtain ⟨oc, od, kV, doc, pm, an, cdv, ct, osl, rfl, lk, hcd⟩ := F.ex
  refine ⟨len, fun A outer s H args us vs Q E hr e0 hb r hsp => ?_⟩
  have KX := e0.mod.kin.keeps fun b o e => (e0.bs b o e).1
  refine codeAny_call_function hr.r.depth (KX _ _ lk) rfl S.co S.gen rfl (PySem.W.codeRec_of KX hcd) (hb _ _ _ _ (wpAny_newFunctionEnv_cells S.kind (fun z hz => ?_) fun env he s1 x => ?_))
  · rcases S.par z.1 (List.of_mem_zip hz).1 with q | q
    · exact .inl q
    · exact .inr ⟨q, PySem.W.cellsFrom_some _ _ _ (.inl q)⟩
  · subst he
    refine ⟨(e0.mod.nolimit.keeps fun b o e => (e0.bs b o e).1).keeps x.toInCall.keep, codeAny_func ?_⟩
    obtain ⟨t, ht, hq⟩ := hbody cdv A outer s H vs Q E (hr.deeper _) hsp
    have I := inv_start (CX := CX) (E := E) S hr.r.hd e0 (len _ _ _ _ hsp) r x
    refine wpAny_mono (ht.run [] s1 _ H _ I hq) (fun fl s' hs => ?_) fun e s' hs => hs
    cases fl with
    | ret u =>
      obtain ⟨v, _, H', J, rv, q⟩ := hs
      exact ⟨v, H', J.os, J.bare, J.base, J.hok, rv, q⟩
    | next =>
      obtain ⟨_, H', J, q⟩ := hs
      exact ⟨V.non, H', J.os, J.bare, J.base, J.hok, rfl, q⟩
    | brk =>
      obtain ⟨_, _, _, q⟩ := hs
      cases q
    | cont =>
      obtain ⟨_, _, _, q⟩ := hs
      cases q
end
section
variable {X : Cx} {k : Nat} {f : Addr} {fd : FuncData} {ps : List Str} {sp : Sp} {x : Str} {p pos : Pos} {e : Expr} {es : List Expr} {t : TA}
/-- f(e, ..), f lets nothing out -/
theorem pe_callG (F : FnG X.prog X.w X.K X.mg X.base CX0 k f fd ps sp) (hr : RoomG k X.A) (hm : X.mg x = some (.ref f)) (hk : PySem.W.keepIn X.K (.ref f) = true) (hb : Binds X.K fd ps []) (ha : PA X (e :: es) t) (hg : Gl X x := by rfl) (hdb : (x == ("__debug__" : Str)) = false := by decide)
    (he : starEach (e :: es) X.env = (false, eval e X.env) :: starEach es X.env := by rfl) (hpl : (backTo pos (starEach es X.env)).any (·.1) = false := by rfl) : PE X (.Call (.Name x p) (e :: es) [] pos) (tCall sp [] E0 t) := by
  refine ⟨fun pins s σ H Q I h => wpAny_Call_Name_kw (ld_glob I hg hm (PySem.W.callWith_K (h₀ := X.base) I.ok.mod.kin hk (thn (ha.run pos pins s σ H _ I h) fun us s1 ⟨vs, H1, I1, r, q⟩ => ⟨I1.kIn, ?_⟩) he hpl) hdb)⟩
  have hl : us.length = ps.length := by
    rw [← r.length, ← List.append_nil vs]
    exact F.len _ _ _ _ q
  have b := hb s1 us I1.kIn (by rw [List.append_nil]; exact hl)
  rw [List.append_nil] at b
  have q : sp vs H1 Q E0 := by
    have z : sp (vs ++ []) H1 Q E0 := q
    rw [List.append_nil] at z
    exact z
  refine wpAny_call (codeAny_mono (F.run X.A X.stack s1 H1 ⟨us, []⟩ us vs Q E0 hr I1.env0 b r q) fun z s' hq => ?_)
  cases z with
  | error e => cases hq
  | ok fl =>
    cases fl with
    | ret u => exact I1.after hq
    | next => cases hq
    | brk => cases hq
    | cont => cases hq
end
end Fu

/-! The end of a law whose def is told by FnG. -/
namespace Fu
open PySem L2
open PyProof.Rows hiding St
/-- what is tracked at the law's entry: the script, if it is no object of the top -/
def H1st (K : PySem.W.Frag) (a : Addr) (o : Obj) (xs : List V) : Hp := fun b => if b = a then (match K.lookup a with | some _ => none | none => some (.frz o (.lst xs))) else none
section
variable {P : Program} {w : World} {K : PySem.W.Frag} {mg mb : Str → Option Value} {a : Addr} {o : Obj} {xs : List V} {h : Heap}
theorem h1_ne {b : Addr} (e : b ≠ a) : H1st K a o xs b = none := if_neg e
theorem h1_at {b : Addr} {u : HO} (e : H1st K a o xs b = some u) : b = a ∧ K.lookup a = none ∧ u = .frz o (.lst xs) := by
  unfold H1st at e
  split at e
  · rename_i hb
    split at e
    · cases e
    · rename_i hk
      cases e
      exact ⟨hb, hk, rfl⟩
  · cases e
theorem h1_only : Only (H1st K a o xs) := fun b => by
  cases e : H1st K a o xs b with
  | none => exact .inl rfl
  | some u =>
    obtain ⟨_, _, rfl⟩ := h1_at e
    exact .inr ⟨_, _, rfl⟩
end
theorem law_G {P : Program} {w : World} {K : PySem.W.Frag} {mg mb : Str → Option Value} {k : Nat} {fa a : Addr} {fd : FuncData} {x : Str} {sp : Sp} {s : Shared} {vs : List Value} {ns : List Int} (KX : K.In s.heap) (hns : s.heap.Ns mainGlobals mg)
    (hb : s.heap.Ns builtinsNs mb) (hbb : ∀ x : Str, x ≠ "__name__" → mb x = bootBuiltins x) (hlim : s.heap.NoLimit) (hg : s.gens = #[]) (ha : s.heap.get? a = some { cls := .type "list", data := .seq vs.toArray }) (hi : IntsAre vs ns)
    (hl : ns.length ≤ sizeLine) (hr : RoomG k callerA) (F : ∀ base : Heap, K.In base → base.Ns mainGlobals mg → FnG P w K mg base CX0 k fa fd [x] sp) (hbind : ∀ (s : Shared) (u : Value), BindsTo s fd ⟨[u], []⟩ [(x, u)])
    (hsp : ∀ H : Hp, Only H → SqL K H a (ns.map V.int) → sp [.ref a] H (fun v _ => v = .bl true) fun _ _ _ => False) :
    codeAny (model P w) callerA (.call (.ref fa) ⟨[.ref a], []⟩) (fun r s' => r = .ok (.ret (.bool true)) ∧ OldK s.heap s'.heap ∧ s'.os = s.os ∧ AllBare s'.gens) s := by
  have rv := vals_ints hi
  have hz := hi.length
  let ob : Obj := { cls := .type "list", data := .seq vs.toArray }
  let H : Hp := H1st K a ob (ns.map V.int)
  have hok : HOk P w H s.heap := fun b u e => by
    obtain ⟨rfl, _, rfl⟩ := h1_at e
    exact ⟨ha, by rw [List.length_map]; exact hl, vs, _, rv, ha⟩
  have hS : SqL K H a (ns.map V.int) := by
    cases q : K.lookup a with
    | none => exact .inl (.inr ⟨ob, by show H1st K a ob _ a = _; unfold H1st; rw [if_pos rfl, q]⟩)
    | some u =>
      have e := KX a u q
      rw [ha] at e
      cases e
      exact .inr ⟨_, vs.toArray, _, q, rfl, rfl, rfl, by rw [List.size_toArray, hz]; exact hl, by simpa using rv⟩
  have free : ∀ {b : Addr} {u : Obj}, s.heap.get? b = some u → (∀ z n, u.data ≠ .seq z n) → H b = none := fun {b u} e d => by
    cases q : H b with
    | none => rfl
    | some v =>
      obtain ⟨rfl, _, _⟩ := h1_at q
      rw [ha] at e
      cases e
      exact absurd rfl (d _ _)
  have nsK : ∀ {b : Addr} {m : Str → Option Value}, s.heap.Ns b m → (hidT s.heap H).Ns b m := fun {b m} ⟨u, es, ep, e, d, r⟩ => ⟨u, es, ep, hidT_get e (free e fun z n => by rw [d]; intro q; cases q), d, r⟩
  have hKb : K.In (hidT s.heap H) := fun b u e => hidT_get (KX b u e) (by
    cases q : H b with
    | none => rfl
    | some v =>
      obtain ⟨rfl, q2, _⟩ := h1_at q
      rw [q2] at e
      cases e)
  obtain ⟨mc, l1, l2⟩ := hlim
  have e0 : Env0 P w K mg (hidT s.heap H) callerA [] s H := ⟨rfl, ⟨hKb, nsK hns, ⟨mb, nsK hb, hbb⟩, mc, nsK l1, l2⟩, fun b u e => of_hidT e, Nat.le_of_eq (hidT_size _ _), trivial, fun b z => (nomatch z), hok, .of_eq hg⟩
  refine codeAny_mono ((F _ hKb (nsK hns)).run callerA [] s H ⟨[.ref a], []⟩ [.ref a] [.ref a] _ _ hr e0 (hbind s (.ref a)) (.cons rfl .nil) (hsp H h1_only hS)) fun r s' z => ?_
  cases r with
  | error e => cases z
  | ok fl =>
    cases fl with
    | next => cases z
    | brk => cases z
    | cont => cases z
    | ret u =>
      obtain ⟨v, H', os, bare, un, hok', r', q⟩ := z
      obtain rfl : v = .bl true := q
      obtain rfl : u = Value.bool true := r'
      refine ⟨rfl, OldK.of_keep fun b u e => ?_, os, bare⟩
      cases q : H b with
      | none => exact un.keep b u e q (fun z => (nomatch z)) (fun z => (nomatch z))
      | some y =>
        obtain ⟨rfl, _, rfl⟩ := h1_at q
        obtain ⟨e2, _⟩ := hok' b _ (un.frzs b _ _ q)
        rw [ha] at e
        cases e
        exact e2
theorem walk_G {l : PySem.W.OpenLaw} {n k : Nat} {q : Program} {loose : List Str} {XP : (Str → Option Value) → Heap → Prop} {YP : World → Heap → Prop} {d : DefRec} {K : Params → PySem.W.Frag} {sp : PySem.W.Frag → Sp} {x : Str} (hn : l.most = some n) (hn2 : n ≤ sizeLine)
    (hdf : d.params.defaults = []) (hr : RoomG k callerA) (hY : ∀ (w : World) (h : Heap), YP w h → (K w.params).In h)
    (F : ∀ (w : World) (mg : Str → Option Value) (fa : Addr) (h : Heap), (K w.params).In h → h.Ns mainGlobals mg → mg d.name = some (.ref fa) → ∃ fd : FuncData, (∀ (s : Shared) (u : Value), BindsTo s fd ⟨[u], []⟩ [(x, u)]) ∧
      ∀ base : Heap, (K w.params).In base → base.Ns mainGlobals mg → FnG l.prog w (K w.params) mg base CX0 k fa fd [x] (sp (K w.params)))
    (hsp : ∀ (K : PySem.W.Frag) (H : Hp) (a : Addr) (ns : List Int), ns.length ≤ n → Only H → SqL K H a (ns.map V.int) → sp K [.ref a] H (fun v _ => v = .bl true) fun _ _ _ => False) :
    PySem.W.WalkO q loose XP YP l.row.toRowW d [] (fun f vs => PySem.call f vs) := by
  refine Att.attach_call hn hdf fun w s₀ s₁ mg mb fa o pm cd doc a vs ns G Y ho hd hcd hmg hobj hints hlen hg => ?_
  obtain ⟨fd, hb, hF⟩ := F w mg fa _ (hY w _ Y) G.T.g hmg
  exact law_G (hY w _ Y) G.T.g G.T.b G.T.builtins G.T.nolimit hg hobj hints (Nat.le_trans hlen hn2) hr hF hb fun H hO hS => hsp _ H a ns hlen hO hS
end Fu

/-! repr of data. -/
namespace Fu
open PySem L2
open PyProof.Rows hiding St
open L2H (RoomH roomH_of)
/-- how a Ratio is written -/
def rTxt (n m : Int) : Str := if m = 1 then (toString n : String) else Str.ofString (toString n) ++ "/" ++ Str.ofString (toString m)
mutual
def txt : D → Str
  | .non => "None"
  | .bl b => if b then "True" else "False"
  | .int i => (toString i : String)
  | .str x => reprText x
  | .lst l => listText (txts l)
  | .tup l => tupleText (txts l)
  | .dic => dictText []
  | .rat n m => rTxt n m
def txts : List D → List Str
  | [] => []
  | d :: l => txt d :: txts l
end
mutual
/-- the datum as the library's own; no Ratio in it -/
def pd : D → PyData
  | .non => .none
  | .bl b => .bool b
  | .int i => .int i
  | .str x => .str x
  | .lst l => .list (pds l)
  | .tup l => .tuple (pds l)
  | .dic => .dict []
  | .rat _ _ => .none
def pds : List D → List PyData
  | [] => []
  | d :: l => pd d :: pds l
end
mutual
/-- no Ratio and no dict in it -/
def inner : D → Bool
  | .lst l => inners l
  | .tup l => inners l
  | .rat _ _ => false
  | .dic => false
  | _ => true
def inners : List D → Bool
  | [] => true
  | d :: l => inner d && inners l
end
mutual
theorem inner_dict : ∀ d : D, inner d = true → (pd d).hasDict = false
  | .non, _ => rfl
  | .bl b, _ => rfl
  | .int i, _ => rfl
  | .str x, _ => rfl
  | .lst l, h => inners_dict l h
  | .tup l, h => inners_dict l h
theorem inners_dict : ∀ l : List D, inners l = true → PyData.hasDictAll (pds l) = false
  | [], _ => rfl
  | d :: l, h => by
    have h' : (inner d && inners l) = true := h
    rw [Bool.and_eq_true] at h'
    show ((pd d).hasDict || PyData.hasDictAll (pds l)) = false
    rw [inner_dict d h'.1, inners_dict l h'.2]
    rfl
end
mutual
theorem shown_pd : ∀ d : D, inner d = true → (pd d).shown = txt d
  | .non, _ => rfl
  | .bl b, _ => rfl
  | .int i, _ => rfl
  | .str x, _ => rfl
  | .lst l, h => by
    show listText (PyData.shownAll (pds l)) = listText (txts l)
    rw [shown_pds l h]
  | .tup l, h => by
    show tupleText (PyData.shownAll (pds l)) = tupleText (txts l)
    rw [shown_pds l h]
theorem shown_pds : ∀ l : List D, inners l = true → PyData.shownAll (pds l) = txts l
  | [], _ => rfl
  | d :: l, h => by
    have h' : (inner d && inners l) = true := h
    rw [Bool.and_eq_true] at h'
    show (pd d).shown :: PyData.shownAll (pds l) = txt d :: txts l
    rw [shown_pd d h'.1, shown_pds l h'.2]
end
section
variable {X : Cx} {C : Addr} {pins : List (Addr × Obj)} {σ : St} {H : Hp} {s : Shared}
mutual
theorem At.reads (I : Inv X pins σ H s) : ∀ (d : D) (v : V) (u : Value), inner d = true → At C H d v → RelV v u → ∃ as, Reads s.heap u (pd d) as
  | .non, _, _, _, h, r => by
    cases h
    cases r
    exact ⟨[], .none⟩
  | .bl b, _, _, _, h, r => by
    cases h
    cases r
    exact ⟨[], .bool b⟩
  | .int i, _, _, _, h, r => by
    cases h
    obtain ⟨t, rfl⟩ := r
    exact ⟨[], .int i t⟩
  | .str x, _, _, _, h, r => by
    cases h
    obtain ⟨t, rfl⟩ := r
    exact ⟨[], .str x t⟩
  | .lst l, _, _, hn, h, r => by
    obtain ⟨a, xs, rfl, ha, hs⟩ := h
    cases r
    obtain ⟨_, its, n, rv, e⟩ := (show ObjOk X.prog X.w H s.heap a (.lst xs) from I.hok a _ ha)
    obtain ⟨as, q⟩ := Ats.reads I l xs its hn hs rv
    exact ⟨a :: as, .list e rfl rfl (by simpa using q)⟩
  | .tup l, _, _, hn, h, r => by
    obtain ⟨a, xs, rfl, ha, hs⟩ := h
    cases r
    obtain ⟨_, its, rv, o, e, hc, n, hd⟩ := (show ObjOk X.prog X.w H s.heap a (.tup xs) from I.hok a _ ha)
    obtain ⟨as, q⟩ := Ats.reads I l xs its hn hs rv
    exact ⟨as, .tuple e hc hd (by simpa using q)⟩
theorem Ats.reads (I : Inv X pins σ H s) : ∀ (l : List D) (xs : List V) (us : List Value), inners l = true → Ats C H l xs → Vals xs us → ∃ as, ReadsAll s.heap us (pds l) as
  | [], _, _, _, h, r => by
    cases h
    cases r
    exact ⟨[], .nil⟩
  | d :: l, _, _, hn, h, r => by
    have h' : (inner d && inners l) = true := hn
    rw [Bool.and_eq_true] at h'
    obtain ⟨x, ys, rfl, h1, h2⟩ := h
    cases r with
    | cons r1 r2 =>
      obtain ⟨as, q1⟩ := At.reads I d _ _ h'.1 h1 r1
      obtain ⟨bs, q2⟩ := Ats.reads I l _ _ h'.2 h2 r2
      exact ⟨_, .cons q1 q2⟩
end
theorem dic_reads (I : Inv X pins σ H s) {a : Addr} (ha : H a = some (.dK [])) : Reads s.heap (.ref a) (.dict []) [a] ∧ a ≠ sysModules := by
  obtain ⟨_, hy, vs, kv, o, es, ep, e, hx, hd, hr⟩ := (show ObjOk X.prog X.w H s.heap a (.dK []) from I.hok a _ ha)
  cases kv
  obtain ⟨_, hp, _⟩ := hr
  have z : es.toList = [] := by
    generalize es.toList = l at hp
    cases hp
    rfl
  refine ⟨.dict (as := []) (bs := []) e hx.1 hd (by rw [z]; exact .nil) (by rw [z]; exact .nil), fun q => ?_⟩
  rw [q] at hy
  simp at hy
end
/-- what the written part says of Ratio's own repr -/
structure ReprC (P : Program) (w : World) (K : PySem.W.Frag) (mg : Str → Option Value) (base : Heap) (C f : Addr) (fd : FuncData) (sp : Sp) : Prop where
  ok : FnA P w K mg base 1 f fd ["self"] sp
  hs : PySem.W.findIn K (.ref C) "__repr__" = some (some (.ref f))
  hf : PySem.W.isFn K (.ref f) = true
  b : Binds K fd ["self"] []
/-- the promise of Ratio's own repr -/
def spRepr (C : Addr) : Sp := fun vs H Q _ => ∃ (a dx : Addr) (n m : Int), vs = [.ref a] ∧ H a = some (.ins C dx (rf n m)) ∧ n.natAbs.log2 < 1900 ∧ m.natAbs.log2 < 1900 ∧ Q (.str (rTxt n m)) H
/-- what can be written -/
def shw : D → Bool
  | .rat n m => decide (n.natAbs.log2 < 1900) && decide (m.natAbs.log2 < 1900)
  | .dic => true
  | d => inner d && (pd d).showable && decide ((pd d).depth ≤ 60) && decide ((txt d).length ≤ 1000000)
def rRepr (C : Addr) : List V → Hp → VK → Prop := fun xs H Q => ∃ (d : D) (v : V), xs = [v] ∧ At C H d v ∧ shw d = true ∧ Q (.str (txt d)) H
theorem RoomH.in1 {k : Nat} {A : Around} (h : RoomH (k + 1) A) : RoomH k A.in1 := ⟨by have := h.dp; show A.depth + 3 * k + 5 < _; omega, by have := h.un; show A.units + 1 + 16 * k + 200 < _; omega⟩
theorem RoomH.mark {k : Nat} {A : Around} (h : RoomH k A) (x : Option Value) : RoomH k (A.mark x) := ⟨h.dp, h.un⟩
theorem call_reprD {X : Cx} {C f : Addr} {fd : FuncData} (T : ReprC X.prog X.w X.K X.mg X.base C f fd (spRepr C)) (hg : X.A.guards = some []) (hr : RoomH 2 X.A) : CallR X (.builtin "repr") (rRepr C) := by
  intro pins s σ H xs us Q I r h
  obtain ⟨d, v, rfl, a, sh, q⟩ := h
  obtain ⟨u, rfl, ru⟩ := vals1 r
  have big : ∀ {n : Nat}, n ≤ 1000000 → n ≤ sizeLine := fun h => Nat.le_trans h (by rw [sizeLine_eq]; decide)
  cases d with
  | rat n m =>
    obtain ⟨p, dx, rfl, hp⟩ := a
    obtain rfl : u = Value.ref p := ru
    have sh' : (decide (n.natAbs.log2 < 1900) && decide (m.natAbs.log2 < 1900)) = true := sh
    rw [Bool.and_eq_true, decide_eq_true_eq, decide_eq_true_eq] at sh'
    obtain ⟨od, J⟩ := inst_of I hp
    obtain ⟨mm, hF⟩ := I.fr
    refine PySem.W.repr_K (by have := hr.un; show X.A.units + 1 < cLine; omega) hF I.ok.mod.kin J T.hs T.hf ?_
    refine thn (run_any (A := X.A.in1) (E := E0) (us := [.ref p]) (vs := [.ref p]) T.ok (RoomH.in1 hr) I.ok.frames T.b I (.cons rfl .nil) (Q := fun v H' => v = .str (rTxt n m) ∧ Q v H') ⟨p, dx, n, m, rfl, hp, sh'.1, sh'.2, rfl, q⟩) fun u s' hh => ?_
    obtain ⟨v, H', I', rv, rfl, q'⟩ := hh
    obtain ⟨t, rfl⟩ := rv
    exact ⟨.str (rTxt n m), H', I', ⟨t, rfl⟩, q'⟩
  | dic =>
    obtain ⟨p, rfl, hp⟩ := a
    obtain rfl : u = Value.ref p := ru
    obtain ⟨rd, ne⟩ := dic_reads I hp
    exact repr_of_reads' rd rfl (fun _ z => ne (List.mem_singleton.mp z).symm) hg (by have := hr.un; show X.A.units + (1 + 1) < cLine; omega) (fun _ _ e => e) (fun h' t tk k => ⟨.str _, H, I.kept k, ⟨_, rfl⟩, q⟩) (big (by decide +kernel))
  | non =>
    obtain rfl : v = .non := a
    obtain rfl : u = Value.none := ru
    exact PySem.P.repr_of_none ⟨.str _, H, I.tok _, ⟨_, rfl⟩, q⟩
  | bl b =>
    obtain rfl : v = .bl b := a
    obtain rfl : u = Value.bool b := ru
    exact PySem.P.repr_of_bool ⟨.str _, H, I.tok _, ⟨_, rfl⟩, q⟩
  | int i =>
    obtain rfl : v = .int i := a
    obtain ⟨t, rfl⟩ := ru
    have sh' : (true && decide (i.natAbs.log2 < 1920) && decide ((pd (.int i)).depth ≤ 60) && decide ((txt (.int i)).length ≤ 1000000)) = true := sh
    rw [Bool.and_eq_true, Bool.and_eq_true, Bool.true_and, decide_eq_true_eq] at sh'
    exact PySem.P.repr_of_int sh'.1.1 ⟨.str _, H, I.tok _, ⟨_, rfl⟩, q⟩
  | str x =>
    obtain rfl : v = .str x := a
    obtain ⟨t, rfl⟩ := ru
    have sh' : (true && true && decide ((pd (.str x)).depth ≤ 60) && decide ((reprText x).length ≤ 1000000)) = true := sh
    rw [Bool.and_eq_true, decide_eq_true_eq] at sh'
    exact PySem.P.repr_of_str ⟨.str _, H, I.tok _, ⟨_, rfl⟩, q⟩ (big sh'.2)
  | lst l =>
    have sh' : (inner (.lst l) && (pd (.lst l)).showable && decide ((pd (.lst l)).depth ≤ 60) && decide ((txt (.lst l)).length ≤ 1000000)) = true := sh
    rw [Bool.and_eq_true, Bool.and_eq_true, Bool.and_eq_true, decide_eq_true_eq, decide_eq_true_eq] at sh'
    obtain ⟨⟨⟨s1, s2⟩, s3⟩, s4⟩ := sh'
    obtain ⟨as, rd⟩ := At.reads I _ _ _ s1 a ru
    obtain ⟨p, xs, rfl, _, _⟩ := a
    obtain rfl : u = Value.ref p := ru
    rw [← shown_pd _ s1] at q s4
    exact repr_of_reads' rd s2 (PyData.noDict_hsm (inner_dict _ s1)) hg (by have := hr.un; omega) (fun _ _ e => e) (fun h' t tk k => ⟨.str _, H, I.kept k, ⟨_, rfl⟩, q⟩) (big s4)
  | tup l =>
    have sh' : (inner (.tup l) && (pd (.tup l)).showable && decide ((pd (.tup l)).depth ≤ 60) && decide ((txt (.tup l)).length ≤ 1000000)) = true := sh
    rw [Bool.and_eq_true, Bool.and_eq_true, Bool.and_eq_true, decide_eq_true_eq, decide_eq_true_eq] at sh'
    obtain ⟨⟨⟨s1, s2⟩, s3⟩, s4⟩ := sh'
    obtain ⟨as, rd⟩ := At.reads I _ _ _ s1 a ru
    obtain ⟨p, xs, rfl, _, _⟩ := a
    obtain rfl : u = Value.ref p := ru
    rw [← shown_pd _ s1] at q s4
    exact repr_of_reads' rd s2 (PyData.noDict_hsm (inner_dict _ s1)) hg (by have := hr.un; omega) (fun _ _ e => e) (fun h' t tk k => ⟨.str _, H, I.kept k, ⟨_, rfl⟩, q⟩) (big s4)
end Fu

/-! isinstance of a caught error that has fields. -/
namespace Fu
open PySem L2
open PyProof.Rows hiding St
/-- isinstance(e, c), e the error that the suite holds at a (class cls, dict d) -/
def rIsX (K : PySem.W.Frag) (D a : Addr) (cls : Value) (d : Option Addr) : List V → Hp → VK → Prop := fun xs H Q => ∃ (c : V) (cv : Value) (b : Bool) (dd : Addr) (fs : List (Str × V)), xs = [.ref a, c] ∧ ClsV c cv ∧ cls = .ref D ∧ d = some dd ∧ H dd = some (.xd fs) ∧
  PySem.W.kitOne K (.ref D) cv = some b ∧ Q (.bl b) H
theorem call_isX {X : Cx} {a D : Addr} {oe : Obj} {cls : Value} {d : Option Addr} {pn : List (Addr × Obj)} (T : ExcC X.K D) (hz : Zc cls d oe) (hf : ∃ vs, oe.data = .fields vs) : CallR (X.suite a ((a, oe) :: pn)) (.builtin "isinstance") (rIsX X.K D a cls d) := by
  intro pins s σ H xs us Q I r h
  obtain ⟨c, cv, b, dd, fs, rfl, hc, rfl, rfl, hd, e, q⟩ := h
  obtain ⟨u, t, rfl, ru, rt⟩ := vals2 r
  obtain rfl : u = Value.ref a := ru
  have ec := hc.eq rt
  subst ec
  have ha := (I.pin (a, oe) (List.mem_append_left _ List.mem_cons_self)).1
  obtain ⟨vs, hv⟩ := hf
  obtain ⟨mA, hns, _⟩ := (show ObjOk X.prog X.w H s.heap dd (.xd fs) from I.hok dd _ hd)
  obtain ⟨od, ho, _⟩ := lookIn_ns hns
  have J : PySem.W.InstAt s.heap a oe D (some od) := ⟨ha, hz.1, by unfold PySem.W.notCls; rw [hv] <;> rfl, by rw [hz.2]; exact ho⟩
  have hcl : (PySem.W.clsIn X.K D).isSome = true := by
    obtain ⟨cd, hc, _⟩ := PySem.W.any_some T.hd
    rw [hc]
    rfl
  exact PySem.W.kia_one (PySem.W.kitx_exc hcl T.hg T.hk T.hs T.ha T.hn T.ht T.hm) I.kIn J e (fun z => nomatch z) fun tk => ⟨.bl b, H, I.kept (t' := tk) fun _ _ z => z, rfl, q⟩
end Fu

/-! x != y by an own __eq__; y == x, y a built-in's value, x an own instance. -/
namespace PySem.W
open PySem PySem.Calls PyProof.Rows Builtin
section
variable {prog : Program} {w : World} {A : Around} {E : Value → Shared → Prop} {s : Shared} {K : Frag} {x C L f : Addr} {h₀ : Heap} {m : Str → Option Value} {ox : Obj} {od : Option Obj} {b tb : Value}
/-- a rich comparison by what the left one answers -/
theorem fu_left {op : CmpOp} {Q : Value → Shared → Prop} (hu : A.units < cLine) (X : K.In s.heap) (I : InstAt s.heap x ox C od) (hb : Looks (model prog w) s.heap (typeOf b) tb) (hn : notFirst K C tb = true)
    (one : wpAny (model prog w) A (tryCompare (.ref x) (cmpInfo op).2.1 b) (fun r s' => ∃ v, r = some v ∧ Q v s') E s) : wpAny (model prog w) A (richCompare op (.ref x) b) Q E s := by
  have fin : ∀ (r : Option Value) (s' : Shared) (k : Sem Value), (∃ v, r = some v ∧ Q v s') → wpAny (model prog w) A (match r with | some v => pure v | none => k) Q E s' := by
    rintro r s' k ⟨v, rfl, q⟩
    exact wpAny_pure q
  unfold richCompare
  simp only [oneThing_ref]
  refine wpAny_holding (wpAny_bind (wpAny_cRoomFor hu (wpAny_bind (I.type.here (wpAny_bind (hb.here ?_))))))
  by_cases e : (Value.ref C != tb) = true
  · rw [if_pos e]
    have e2 : subIn K tb (.ref C) = some false := by
      rcases Bool.or_eq_true_iff.mp hn with z | z
      · rw [beq_iff_eq.mp z] at e
        simp at e
      · exact beq_iff_eq.mp z
    refine wpAny_bind ((looks_subIn X e2).here ?_)
    simp only [Bool.false_eq_true, if_false]
    refine wpAny_bind (wpAny_mono one (fun r s' z => ?_) fun _ _ e => e)
    obtain ⟨v, rfl, q⟩ := z
    exact wpAny_pure q
  · rw [if_neg e]
    refine wpAny_bind (wpAny_pure ?_)
    simp only [Bool.false_eq_true, if_false]
    refine wpAny_bind (wpAny_mono one (fun r s' z => ?_) fun _ _ e => e)
    obtain ⟨v, rfl, q⟩ := z
    exact wpAny_pure q
theorem fu_neBind (self : Value) : bindSpecial (.builtin "object.__ne__") self = pure (.builtin "object.__ne__", [self]) :=
  (Slot.of (T := "object") (name := "__ne__") (owner := "object") (n := "__ne__") (by rw [typeLookup_type, builtinLookup_eq_fast]; kernel_rfl) (by decide +kernel) (by decide +kernel) (by decide +kernel) (.inl (by decide +kernel)) (by rw [isSubtype_type]; kernel_rfl)).bind self
theorem fu_nePlain : plainId "object.__ne__" = true := by decide +kernel
/-- x != b by x's own __eq__, that answers a truth value -/
theorem fu_ne {Q : Value → Shared → Prop} (hu : A.in1.units < cLine) (X : K.In s.heap) (I : InstAt s.heap x ox C od) (hb : Looks (model prog w) s.heap (typeOf b) tb) (hn : notFirst K C tb = true) (hm : mroIn K C (.type "object") = some true)
    (hne : findIn K (.ref C) "__ne__" = some (some (.builtin "object.__ne__"))) (hs : findIn K (.ref C) "__eq__" = some (some (.ref f))) (hf : isFn K (.ref f) = true)
    (h : wpAny (model prog w) A.in1 (call (.ref f) [.ref x, b]) (fun v s' => ∃ c, v = .bool c ∧ Q (.bool (!c)) s') E s) : wpAny (model prog w) A (richCompare .NotEq (.ref x) b) Q E s := by
  refine fu_left (op := .NotEq) (by have : A.units + 1 < cLine := hu; omega) X I hb hn ?_
  unfold tryCompare
  have sub : Looks (model prog w) s.heap (isInstance (.ref x) (.type "object")) true := I.type.andThen (looks_mroIn X hm)
  have core : wpAny (model prog w) A (call (.builtin "object.__ne__") [.ref x, b]) (fun v s' => ∃ c, v = .bool c ∧ Q v s') E s := by
    refine wpAny_call (codeAny_call_builtin fu_nePlain PySem.F.cmpEntry_ne (@check_slot (model prog w) _ _ s "object.__ne__" "object" "__ne__" (.ref x) [b] [] _ PySem.F.cmpKind_ne PySem.F.cmpSplit_ne sub (PySem.F.cmpArgs_ne _ _) ?_))
    unfold Builtin.«object.__ne__»
    refine wpAny_bind (wpAny_of_eq (a := ((Value.ref x : Value), [b])) (by first | rfl | (simp only [slotArgs]; rfl)) ?_)
    refine wpAny_bind (wpAny_cRoomFor hu (wpAny_bind (ifBound_K X I hs hf (wpAny_mono h (fun v s' z => ?_) fun _ _ e => e))))
    obtain ⟨c, rfl, q⟩ := z
    show wpAny _ _ (truthy (.bool c) >>= fun r => ret (.bool (!r))) _ _ _
    exact wpAny_bind (wpAny_truthy_bool (wpAny_pure ⟨_, rfl, q⟩))
  refine wpAny_bind ?_
  simp only [callSpecialIfBound?, bindSpecialIfBound?]
  refine wpAny_holding (wpAny_bind (wpAny_bind (wpAny_bind (I.type.here ((looks_findIn X hne).here ?_)))))
  simp only [fu_neBind]
  refine wpAny_bind (wpAny_askSetting (wpAny_ite ?_))
  have fin : wpAny (model prog w) A (call (.builtin "object.__ne__") ([.ref x] ++ [b]) >>= fun v => pure (some v)) (fun r s₁ => wpAny (model prog w) A (match r with | some .notImplemented => pure none | none => pure none | some v => pure (some v)) (fun r s' => ∃ v, r = some v ∧ Q v s') E s₁) E s := by
    refine wpAny_bind (wpAny_mono core (fun v s' z => ?_) fun _ _ e => e)
    obtain ⟨c, rfl, q⟩ := z
    exact wpAny_pure (wpAny_pure ⟨_, rfl, q⟩)
  split
  · exact wpAny_bind (wpAny_pure (wpAny_pure fin))
  · exact wpAny_tryCatch (wpAny_bind (wpAny_pure (wpAny_pure fin)))
/-- a rich comparison of a built-in's value with an own instance, by what the instance answers -/
theorem fu_right {op : CmpOp} {a : Value} {T i : String} {Q : Value → Shared → Prop} (hu : A.units < cLine) (X : K.In s.heap) (I : InstAt s.heap x ox C od) (ha : s.TypeIs a T) (S : Slot T (cmpInfo op).2.1 i) (hm : mroIn K C (.type T) = some false)
    (hc : ∀ Q' : Value → Shared → Prop, Q' .notImplemented s → wpAny (model prog w) A (call (.builtin i) [a, .ref x]) Q' E s) (hs : findIn K (.ref C) (cmpInfo op).2.2 = some (some (.ref f))) (hf : isFn K (.ref f) = true)
    (h : wpAny (model prog w) A (call (.ref f) [.ref x, a]) (CmpBack Q) E s) : wpAny (model prog w) A (richCompare op a (.ref x)) Q E s := by
  have one : wpAny (model prog w) A (tryCompare (.ref x) (cmpInfo op).2.2 a) (fun r s' => ∃ v, r = some v ∧ Q v s') E s := by
    unfold tryCompare
    refine wpAny_bind (ifBound_K X I hs hf (wpAny_mono h (fun v s' hv => ?_) fun _ _ e => e))
    cases v <;> first | exact hv.elim | exact wpAny_pure ⟨_, rfl, hv⟩
  unfold richCompare
  simp only [ha.oneThing_none]
  refine wpAny_holding (wpAny_bind (wpAny_cRoomFor hu (wpAny_bind (wpAny_typeOf ha (wpAny_bind (I.type.here ?_))))))
  rw [if_pos (show (Value.type T != Value.ref C) = true from rfl)]
  refine wpAny_bind ((looks_mroIn X hm).here ?_)
  simp only [Bool.false_eq_true, if_false, Bool.not_false, if_true]
  refine wpAny_bind (m := tryCompare a _ (.ref x)) (wpAny_tryCompare_declines ha S (hc _ ⟨rfl, ?_⟩))
  refine wpAny_bind (wpAny_mono one (fun r s' z => ?_) fun _ _ e => e)
  obtain ⟨v, rfl, q⟩ := z
  exact wpAny_pure q
end
end PySem.W

/-! What the built-ins' own == answers of an own instance: NotImplemented. -/
namespace PySem.W
open PySem PySem.Calls PyProof.Rows Builtin
section
variable {prog : Program} {w : World} {A : Around} {E : Value → Shared → Prop} {s : Shared} {K : Frag} {x C dx l : Addr} {Q : Value → Shared → Prop}
theorem fu_dBool {b : Bool} (hx : s.heap.get? x = some (instObj C dx)) (h : Q .notImplemented s) : wpAny (model prog w) A (call (.builtin "int.__eq__") [.bool b, .ref x]) Q E s := by
  refine GQ.call_here PySem.F.slot_bool_eq rfl PySem.F.entry_int_eq (PySem.F.args_int_eq_2 _ _) ?_
  obtain ⟨hp, g, d, tk, os⟩ := s
  wp_walk using wpAny_loadPart' hx
  exact h
theorem fu_dInt {i : Int} {t : Tok} (hx : s.heap.get? x = some (instObj C dx)) (h : Q .notImplemented s) : wpAny (model prog w) A (call (.builtin "int.__eq__") [.int i t, .ref x]) Q E s := by
  refine GQ.call_here PySem.F.slot_int_eq (typeIs_int s i t) PySem.F.entry_int_eq (PySem.F.args_int_eq_2 _ _) ?_
  obtain ⟨hp, g, d, tk, os⟩ := s
  wp_walk using wpAny_loadPart' hx
  exact h
theorem fu_dNone (h : Q .notImplemented s) : wpAny (model prog w) A (call (.builtin "NoneType.__eq__") [.none, .ref x]) Q E s :=
  call_gives PySem.F.slot_NoneType_eq rfl PySem.F.entry_NoneType_eq (PySem.F.args_NoneType_eq_2 _ _) (SeqAt.NoneType___eq___none_ref_0 x) h
theorem fu_dStr {z : Str} {t : Tok} (hx : s.heap.get? x = some (instObj C dx)) (h : Q .notImplemented s) : wpAny (model prog w) A (call (.builtin "str.__eq__") [.str z t, .ref x]) Q E s := by
  refine GQ.call_here PySem.F.slot_str_eq (typeIs_str s z t) PySem.F.entry_str_eq (PySem.F.args_str_eq_2 _ _) ?_
  obtain ⟨hp, g, d, tk, os⟩ := s
  wp_walk using wpAny_loadPart' hx
  exact h
theorem fu_dList {o : Obj} (hl : s.heap.get? l = some o) (hc : o.cls = .type "list") (hi : Looks (model prog w) s.heap (isInstance (.ref x) (.type "list")) false) (h : Q .notImplemented s) : wpAny (model prog w) A (call (.builtin "list.__eq__") [.ref l, .ref x]) Q E s := by
  refine GQ.call_here PySem.F.slot_list_eq ⟨o, hl, hc⟩ PySem.F.entry_list_eq (PySem.F.args_list_eq_2 _ _) ?_
  unfold Builtin.«list.__eq__»
  refine wpAny_bind (wpAny_of_eq (a := ((Value.ref l : Value), [Value.ref x])) (by first | rfl | (simp only [slotArgs]; rfl)) ?_)
  refine wpAny_bind (hi.here ?_)
  exact wpAny_pure h
theorem fu_dTup {o : Obj} (hl : s.heap.get? l = some o) (hc : o.cls = .type "tuple") (hi : Looks (model prog w) s.heap (isInstance (.ref x) (.type "tuple")) false) (h : Q .notImplemented s) : wpAny (model prog w) A (call (.builtin "tuple.__eq__") [.ref l, .ref x]) Q E s := by
  refine GQ.call_here PySem.F.slot_tuple_eq ⟨o, hl, hc⟩ PySem.F.entry_tuple_eq (PySem.F.args_tuple_eq_2 _ _) ?_
  unfold Builtin.«tuple.__eq__»
  refine wpAny_bind (wpAny_of_eq (a := ((Value.ref l : Value), [Value.ref x])) (by first | rfl | (simp only [slotArgs]; rfl)) ?_)
  refine wpAny_bind (hi.here ?_)
  exact wpAny_pure h
theorem fu_dDict {o : Obj} (hl : s.heap.get? l = some o) (hc : o.cls = .type "dict") (hi : Looks (model prog w) s.heap (isInstance (.ref x) (.type "dict")) false) (h : Q .notImplemented s) : wpAny (model prog w) A (call (.builtin "dict.__eq__") [.ref l, .ref x]) Q E s := by
  refine GQ.call_here PySem.F.slot_dict_eq ⟨o, hl, hc⟩ PySem.F.entry_dict_eq (PySem.F.args_dict_eq_2 _ _) ?_
  unfold Builtin.«dict.__eq__»
  refine wpAny_bind (wpAny_of_eq (a := ((Value.ref l : Value), (Value.ref x : Value))) (by first | rfl | (simp only [Builtin.Dict.dictSlotArgs, slotArgs]; rfl)) ?_)
  refine wpAny_bind (hi.here ?_)
  exact wpAny_bind (wpAny_rule (wpAny_pure h))
end
end PySem.W
namespace Fu
open PySem L2
open PyProof.Rows hiding St
/-- a callee that lets nothing out, run at another place of the same frame -/
theorem run_at {X : Cx} {A : Around} {k : Nat} {f : Addr} {fd : FuncData} {ps : List Str} {sp : Sp} {pins : List (Addr × Obj)} {σ : St} {H : Hp} {s : Shared} {Q : VK} {E : XK} {us : List Value} {vs : List V} (F : FnOk X.prog X.w X.K X.mg X.base CX0 k f fd ps sp)
    (hr : Room k A) (hf : A.frames = some X.stack) (hb : Binds X.K fd ps []) (I : Inv X pins σ H s) (r : Vals vs us) (h : sp vs H Q E) : wpAny (model X.prog X.w) A (call (.ref f) us) (EP X pins σ Q) X.xe s := by
  have e := I.env0
  have b := hb s us I.kIn (by rw [List.append_nil, ← r.length]; exact F.len _ _ _ _ h)
  rw [List.append_nil] at b
  refine wpAny_call (codeAny_mono (F.run A X.stack s H ⟨us, []⟩ us vs Q E hr ⟨hf, e.mod, e.bs, e.bsz, e.funs, e.frf, e.hok, e.bare⟩ b r h) fun z s' hq => ?_)
  cases z with
  | error e => cases hq
  | ok fl =>
    cases fl with
    | ret u => exact I.after hq
    | next => cases hq
    | brk => cases hq
    | cont => cases hq
section
variable {X : Cx} {k : Nat} {f C : Addr} {fd : FuncData} {ps : List Str} {sp : Sp}
/-- x != y, x an own instance with an own __eq__ -/
def rNeOwn (K : PySem.W.Frag) (C : Addr) (sp : Sp) : R2 := fun x y H Q => ∃ a dx fs t, x = .ref a ∧ H a = some (.ins C dx fs) ∧ TyX K H y t ∧ PySem.W.notFirst K C t = true ∧ sp [.ref a, y] H (fun v H' => ∃ c, v = .bl c ∧ Q (.bl (!c)) H') E0
theorem op_neOwn (F : FnOk X.prog X.w X.K X.mg X.base CX0 k f fd ps sp) (hr : Room (k + 1) X.A) (hm : PySem.W.mroIn X.K C (.type "object") = some true) (hne : PySem.W.findIn X.K (.ref C) "__ne__" = some (some (.builtin "object.__ne__")))
    (hs : PySem.W.findIn X.K (.ref C) "__eq__" = some (some (.ref f))) (hf : PySem.W.isFn X.K (.ref f) = true) (hb : Binds X.K fd ps []) : OpR X (compareOp .NotEq) (rNeOwn X.K C sp) := by
  intro pins s σ H x y u v Q I rx ry h
  obtain ⟨a, dx, fs, t, rfl, ha, ty, hn, q⟩ := h
  obtain rfl : u = Value.ref a := rx
  obtain ⟨od, J⟩ := inst_of I ha
  obtain ⟨P, Z, p, _⟩ := kit_of I ry ty
  show wpAny _ _ (richCompare .NotEq (.ref a) v) _ _ _
  refine PySem.W.fu_ne (by have := hr.un; show X.A.units + 1 < cLine; omega) I.kIn J (Z.ty _ _ I.kIn p) hn hm hne hs hf ?_
  refine thn (run_at (A := X.A.in1) (E := E0) (us := [.ref a, v]) (vs := [.ref a, y]) F hr.in1 I.ok.frames hb I (.cons rfl (.cons ry .nil)) q) fun z s' hh => ?_
  obtain ⟨v', H', I', rv, c, rfl, q'⟩ := hh
  obtain rfl : z = Value.bool c := rv
  exact ⟨c, rfl, .bl (!c), H', I', rfl, q'⟩
/-- the class is no kind of the built-ins -/
structure NoB (K : PySem.W.Frag) (C : Addr) : Prop where
  m : ∀ T ∈ ["NoneType", "bool", "int", "str", "list", "tuple", "dict"], PySem.W.mroIn K C (.type T) = some false
/-- y == x, y a datum that is no Ratio, x an own instance with an own __eq__ -/
def rEqRefl (C : Addr) (sp : Sp) : R2 := fun y x H Q => ∃ d a dx fs, At C H d y ∧ (∀ n m, d ≠ .rat n m) ∧ x = .ref a ∧ H a = some (.ins C dx fs) ∧ sp [.ref a, y] H Q E0
theorem op_eqRefl (F : FnOk X.prog X.w X.K X.mg X.base CX0 k f fd ps sp) (hr : Room k X.A) (N : NoB X.K C) (hs : PySem.W.findIn X.K (.ref C) "__eq__" = some (some (.ref f))) (hf : PySem.W.isFn X.K (.ref f) = true) (hb : Binds X.K fd ps []) :
    OpR X (compareOp .Eq) (rEqRefl C sp) := by
  intro pins s σ H y x v u Q I ry rx h
  obtain ⟨d, a, dx, fs, ad, nr, rfl, ha, q⟩ := h
  obtain rfl : u = Value.ref a := rx
  obtain ⟨od, J⟩ := inst_of I ha
  have hx := J.1
  have hin : ∀ T, PySem.W.mroIn X.K C (.type T) = some false → PySem.W.Looks (model X.prog X.w) s.heap (isInstance (.ref a) (.type T)) false := fun T h => J.type.andThen (PySem.W.looks_mroIn I.kIn h)
  have back := fun (q : sp [.ref a, y] H Q E0) => thn (run_at (A := X.A) (E := E0) (us := [.ref a, v]) (vs := [.ref a, y]) F hr I.ok.frames hb I (.cons rfl (.cons ry .nil)) q) fun z s' hh => back_of hh
  show wpAny _ _ (richCompare .Eq v (.ref a)) _ _ _
  cases d with
  | rat n m => exact absurd rfl (nr n m)
  | non =>
    obtain rfl : y = .non := ad
    obtain rfl : v = Value.none := ry
    exact PySem.W.fu_right hr.units0 I.kIn J rfl PySem.F.slot_NoneType_eq (N.m _ (by decide)) (fun _ h => PySem.W.fu_dNone h) hs hf (back q)
  | bl b =>
    obtain rfl : y = .bl b := ad
    obtain rfl : v = Value.bool b := ry
    exact PySem.W.fu_right hr.units0 I.kIn J rfl PySem.F.slot_bool_eq (N.m _ (by decide)) (fun _ h => PySem.W.fu_dBool hx h) hs hf (back q)
  | int i =>
    obtain rfl : y = .int i := ad
    obtain ⟨t, rfl⟩ := id ry
    exact PySem.W.fu_right hr.units0 I.kIn J (typeIs_int s i t) PySem.F.slot_int_eq (N.m _ (by decide)) (fun _ h => PySem.W.fu_dInt hx h) hs hf (back q)
  | str z =>
    obtain rfl : y = .str z := ad
    obtain ⟨t, rfl⟩ := id ry
    exact PySem.W.fu_right hr.units0 I.kIn J (typeIs_str s z t) PySem.F.slot_str_eq (N.m _ (by decide)) (fun _ h => PySem.W.fu_dStr hx h) hs hf (back q)
  | lst l =>
    obtain ⟨p, xs, rfl, hp, _⟩ := ad
    obtain rfl : v = Value.ref p := ry
    obtain ⟨_, its, n, _, e⟩ := (show ObjOk X.prog X.w H s.heap p (.lst xs) from I.hok p _ hp)
    exact PySem.W.fu_right hr.units0 I.kIn J ⟨_, e, rfl⟩ PySem.F.slot_list_eq (N.m _ (by decide)) (fun _ h => PySem.W.fu_dList e rfl (hin _ (N.m _ (by decide))) h) hs hf (back q)
  | tup l =>
    obtain ⟨p, xs, rfl, hp, _⟩ := ad
    obtain rfl : v = Value.ref p := ry
    obtain ⟨_, its, _, o, e, hc, _⟩ := (show ObjOk X.prog X.w H s.heap p (.tup xs) from I.hok p _ hp)
    exact PySem.W.fu_right hr.units0 I.kIn J ⟨_, e, hc⟩ PySem.F.slot_tuple_eq (N.m _ (by decide)) (fun _ h => PySem.W.fu_dTup e hc (hin _ (N.m _ (by decide))) h) hs hf (back q)
  | dic =>
    obtain ⟨p, rfl, hp⟩ := ad
    obtain rfl : v = Value.ref p := ry
    obtain ⟨_, _, _, _, o, _, _, e, hc, _⟩ := (show ObjOk X.prog X.w H s.heap p (.dK []) from I.hok p _ hp)
    exact PySem.W.fu_right hr.units0 I.kIn J ⟨_, e, hc.1⟩ PySem.F.slot_dict_eq (N.m _ (by decide)) (fun _ h => PySem.W.fu_dDict e hc.1 (hin _ (N.m _ (by decide))) h) hs hf (back q)
end
end Fu

/-! Operators of own instances: +, -, * on either side of an int, the orders on either side, -x, abs, bool, str. -/
namespace PySem.W
open PySem PySem.Calls PyProof.Rows Builtin
section
variable {prog : Program} {w : World} {A : Around} {E : Value → Shared → Prop} {s : Shared} {K : Frag} {x C dx f : Addr} {ox : Obj} {od : Option Obj} {Q : Value → Shared → Prop}
theorem fu_abs (X : K.In s.heap) (I : InstAt s.heap x ox C od) (hs : findIn K (.ref C) "__abs__" = some (some (.ref f))) (hf : isFn K (.ref f) = true) (h : wpAny (model prog w) A.in1 (call (.ref f) [.ref x]) Q E s) :
    wpAny (model prog w) A (call (.builtin "abs") [.ref x]) Q E s := by
  refine Calls.call_function_entry PyProof.Rows.kind_abs PyProof.Rows.plain_abs PyProof.Rows.entry_abs (PyProof.Rows.args_abs _) ?_
  unfold Builtin.«abs»
  refine wpAny_bind (m := oneArg "abs" _) (wpAny_pure ?_)
  refine wpAny_bind (m := callSpecial? (.ref x) (Str.ofString "__abs__")) (special_fn X I hs (beq_iff_eq.mp hf) (wpAny_mono h (fun r s' hr => ?_) fun _ _ y => y))
  exact wpAny_pure ⟨_, rfl, hr⟩
theorem fu_bool (X : K.In s.heap) (I : InstAt s.heap x ox C od) (hs : findIn K (.ref C) "__bool__" = some (some (.ref f))) (hf : isFn K (.ref f) = true)
    (h : wpAny (model prog w) A.in1.in1 (call (.ref f) [.ref x]) (fun v s' => ∃ c, v = .bool c ∧ Q (.bool c) s') E s) : wpAny (model prog w) A (call (.type "bool") [.ref x]) Q E s := by
  refine callType_newIn PySem.F.called_bool PySem.F.newNe_bool (PySem.F.typeCall_bool_1 _) (PySem.F.newCall_bool_1 _) (fun obj => PySem.F.args_object_init_2 obj _) PySem.F.entry_bool_new
    (S := fun A R s => ∃ (E' : Value → Shared → Prop), (∀ e s', E' e s' → R (.error e) s') ∧ K.In s.heap ∧ InstAt s.heap x ox C od ∧ wpAny (model prog w) A.in1 (call (.ref f) [.ref x]) (fun v s' => ∃ c, v = .bool c ∧ R (.ok (.ret (.bool c))) s') E' s)
    (MeetsIn.of_wp fun A R s hh => ?_) ⟨E, fun _ _ e => e, X, I, wpAny_mono h (fun v s' z => by obtain ⟨c, rfl, q⟩ := z; exact ⟨c, rfl, rfl, q⟩) fun _ _ e => e⟩
  obtain ⟨E', he, X', I', h'⟩ := hh
  obtain ⟨hp, g, d, tk, os⟩ := s
  have f1 := PySem.F.conv_sub_bool
  have tr : ∀ {Q' : Bool → Shared → Prop}, (∀ c s', R (.ok (.ret (.bool c))) s' → Q' c s') → wpAny (model prog w) A.in1 (truthy (.ref x)) Q' (fun e s' => R (.error e) s') ⟨hp, g, d, tk, os⟩ := fun {Q'} kk => by
    unfold truthy
    refine wpAny_bind (m := callSpecial? (.ref x) (Str.ofString "__bool__")) (special_fn X' I' hs (beq_iff_eq.mp hf) (wpAny_mono h' (fun r s' hr => ?_) fun _ _ y => he _ _ y))
    obtain ⟨c, rfl, q⟩ := hr
    exact wpAny_pure (kk c s' q)
  repeat (any_goals (first | assumption | (with_reducible refine tr fun c s' q => ?_) | wp_step))
  all_goals first | exact ⟨_, rfl, q⟩ | exact ⟨_, rfl, by assumption⟩ | skip
theorem fu_str (hu : A.in1.in1.units < cLine) (X : K.In s.heap) (I : InstAt s.heap x ox C od) (hs : findIn K (.ref C) "__str__" = some (some (.ref f))) (hf : isFn K (.ref f) = true)
    (h : wpAny (model prog w) A.in1.in1 (call (.ref f) [.ref x]) (fun v s' => ∃ z t, v = .str z t ∧ Q (.str z t) s') E s) : wpAny (model prog w) A (call (.type "str") [.ref x]) Q E s := by
  refine callType_newIn PySem.F.called_str (by decide) (PySem.F.typeCall_str_1 _) (PySem.F.newCall_str_1 _) (fun obj => PySem.F.args_object_init_2 obj _) PySem.F.entry_str_new
    (S := fun A R s => ∃ (E' : Value → Shared → Prop), (∀ e s', E' e s' → R (.error e) s') ∧ A.in1.units < cLine ∧ K.In s.heap ∧ InstAt s.heap x ox C od ∧ wpAny (model prog w) A.in1 (call (.ref f) [.ref x]) (fun v s' => ∃ z t, v = .str z t ∧ R (.ok (.ret (.str z t))) s') E' s)
    (MeetsIn.of_wp fun A R s hh => ?_) ⟨E, fun _ _ e => e, hu, X, I, wpAny_mono h (fun v s' z => by obtain ⟨c, t, rfl, q⟩ := z; exact ⟨c, t, rfl, typeIs_str _ _ _, q⟩) fun _ _ e => e⟩
  obtain ⟨E', he, hu', X', I', h'⟩ := hh
  rw [str_new_tree]
  refine wpAny_bind (wpAny_pure ?_)
  refine wpAny_bind (wpAny_of_eq isSubtype_str_str ?_)
  refine wpAny_bind ?_
  unfold PySem.Builtin.Str.strOf
  refine wpAny_bind (wpAny_cRoomFor hu' ?_)
  refine wpAny_bind (m := callSpecial? (.ref x) (Str.ofString "__str__")) (special_fn X' I' hs (beq_iff_eq.mp hf) (wpAny_mono h' (fun r s' hr => ?_) fun _ _ y => he _ _ y))
  obtain ⟨c, t, rfl, q⟩ := hr
  exact wpAny_bind (wpAny_pure (wpAny_pure (wpAny_pure ⟨_, rfl, q⟩)))
/-- i op x, i an int, x an own instance with its own reflected method -/
theorem fu_binR {op : Operator} {i : Int} {t : Tok} {id : String} {g : Addr} (X : K.In s.heap) (I : InstAt s.heap x ox C od) (hc : selfFirst K C = true) (S : Slot "int" (PySem.dunder op.info.2) id)
    (h1 : findIn K (.type "int") (PySem.dunder op.info.2) = some (some (.builtin id))) (h2 : findIn K (.type "int") (dunderR op.info.2) = some (some (.builtin id'))) (hq : isSeqSlot (some (.builtin id)) = false)
    (hd : ∀ Q' : Value → Shared → Prop, Q' .notImplemented s → wpAny (model prog w) A (call (.builtin id) [.int i t, .ref x]) Q' E s)
    (hs : findIn K (.ref C) (PySem.dunder op.info.2) = some (some (.ref g))) (hr : findIn K (.ref C) (dunderR op.info.2) = some (some (.ref f))) (hf : isFn K (.ref f) = true) (hsub : subIn K (.ref C) (.type "int") = some false)
    (h : wpAny (model prog w) A (call (.ref f) [.ref x, .int i t]) (CmpBack Q) E s) : wpAny (model prog w) A (binaryOp op (.int i t) (.ref x)) Q E s := by
  obtain ⟨cd, rest, hcd, hm⟩ := ksp_first hc
  rcases hi : op.info with ⟨sym, nm'⟩
  rw [hi] at hs hr h1 h2 S
  dsimp only at hs hr h1 h2 S
  have one := ksp_try X I hr hf h
  obtain ⟨hh, gg, d, tt, os⟩ := s
  have L1 : Looks (model prog w) hh (typeOf (.ref x)) (.ref C) := I.type
  have L3 : Looks (model prog w) hh (fillsNumberSlot (.ref C) nm') true := fills_K X hcd hm hs
  have L4 : Looks (model prog w) hh (fillsNumberSlot (.type "int") nm') true := by
    have z : Looks (model prog w) hh (fillsNumberSlot (.type "int") nm') (((some (Value.builtin id)).isSome && !isSeqSlot (some (.builtin id))) || ((some (Value.builtin id')).isSome && !isSeqSlot (some (.builtin id')))) := ksp_fillsT X h1 h2
    rw [hq] at z
    exact z
  have L5 : Looks (model prog w) hh (isSubtype (.ref C) (.type "int")) false := looks_subIn X hsub
  have L7 : Looks (model prog w) hh (numberSlotInPython (.type "int") nm') false := Looks.of_pure rfl
  have hne : (Value.type "int" == Value.ref C) = false := Bool.eq_false_iff.mpr fun q => by cases beq_iff_eq.mp q
  simp only [binaryOp, hi]
  refine wpAny_holding (wpAny_bind ?_)
  unfold binaryOp1
  refine wpAny_bind (wpAny_typeOf (typeIs_int _ i t) (wpAny_bind (L1.at (wpAny_bind (L4.at ?_)))))
  simp only [hne, Bool.false_eq_true, if_false]
  ksp_lk
  refine wpAny_tryMethod_declines (typeIs_int _ i t) S (hd _ ⟨rfl, ?_⟩)
  ksp_lk
  refine wpAny_mono one (fun r s' hr' => ?_) fun _ _ e => e
  obtain ⟨v, rfl, hq⟩ := hr'
  ksp_lk
  exact hq
theorem fu_dI_add {i : Int} {t : Tok} (hx : s.heap.get? x = some (instObj C dx)) (h : Q .notImplemented s) : wpAny (model prog w) A (call (.builtin "int.__add__") [.int i t, .ref x]) Q E s := by
  refine GQ.call_here PySem.F.slot_int_add (typeIs_int s i t) PySem.F.entry_int_add (PySem.F.args_int_add_2 _ _) ?_
  obtain ⟨hp, g, d, tk, os⟩ := s
  wp_walk using wpAny_loadPart' hx
  exact h
theorem fu_dI_sub {i : Int} {t : Tok} (hx : s.heap.get? x = some (instObj C dx)) (h : Q .notImplemented s) : wpAny (model prog w) A (call (.builtin "int.__sub__") [.int i t, .ref x]) Q E s := by
  refine GQ.call_here PySem.F.slot_int_sub (typeIs_int s i t) PySem.F.entry_int_sub (PySem.F.args_int_sub_2 _ _) ?_
  obtain ⟨hp, g, d, tk, os⟩ := s
  wp_walk using wpAny_loadPart' hx
  exact h
theorem fu_dI_mul {i : Int} {t : Tok} (hx : s.heap.get? x = some (instObj C dx)) (h : Q .notImplemented s) : wpAny (model prog w) A (call (.builtin "int.__mul__") [.int i t, .ref x]) Q E s := by
  refine GQ.call_here PySem.F.slot_int_mul (typeIs_int s i t) PySem.F.entry_int_mul (PySem.F.args_int_mul_2 _ _) ?_
  obtain ⟨hp, g, d, tk, os⟩ := s
  wp_walk using wpAny_loadPart' hx
  exact h
theorem fu_dI_lt {i : Int} {t : Tok} (hx : s.heap.get? x = some (instObj C dx)) (h : Q .notImplemented s) : wpAny (model prog w) A (call (.builtin "int.__lt__") [.int i t, .ref x]) Q E s := by
  refine GQ.call_here PySem.F.slot_int_lt (typeIs_int s i t) PySem.F.entry_int_lt (PySem.F.args_int_lt_2 _ _) ?_
  obtain ⟨hp, g, d, tk, os⟩ := s
  wp_walk using wpAny_loadPart' hx
  exact h
theorem fu_dI_le {i : Int} {t : Tok} (hx : s.heap.get? x = some (instObj C dx)) (h : Q .notImplemented s) : wpAny (model prog w) A (call (.builtin "int.__le__") [.int i t, .ref x]) Q E s := by
  refine GQ.call_here PySem.F.slot_int_le (typeIs_int s i t) PySem.F.entry_int_le (PySem.F.args_int_le_2 _ _) ?_
  obtain ⟨hp, g, d, tk, os⟩ := s
  wp_walk using wpAny_loadPart' hx
  exact h
theorem fu_dI_gt {i : Int} {t : Tok} (hx : s.heap.get? x = some (instObj C dx)) (h : Q .notImplemented s) : wpAny (model prog w) A (call (.builtin "int.__gt__") [.int i t, .ref x]) Q E s := by
  refine GQ.call_here PySem.F.slot_int_gt (typeIs_int s i t) PySem.F.entry_int_gt (PySem.F.args_int_gt_2 _ _) ?_
  obtain ⟨hp, g, d, tk, os⟩ := s
  wp_walk using wpAny_loadPart' hx
  exact h
theorem fu_dI_ge {i : Int} {t : Tok} (hx : s.heap.get? x = some (instObj C dx)) (h : Q .notImplemented s) : wpAny (model prog w) A (call (.builtin "int.__ge__") [.int i t, .ref x]) Q E s := by
  refine GQ.call_here PySem.F.slot_int_ge (typeIs_int s i t) PySem.F.entry_int_ge (PySem.F.args_int_ge_2 _ _) ?_
  obtain ⟨hp, g, d, tk, os⟩ := s
  wp_walk using wpAny_loadPart' hx
  exact h
theorem fu_dI_ne {i : Int} {t : Tok} (hx : s.heap.get? x = some (instObj C dx)) (h : Q .notImplemented s) : wpAny (model prog w) A (call (.builtin "int.__ne__") [.int i t, .ref x]) Q E s := by
  refine GQ.call_here PySem.F.slot_int_ne (typeIs_int s i t) PySem.F.entry_int_ne (PySem.F.args_int_ne_2 _ _) ?_
  obtain ⟨hp, g, d, tk, os⟩ := s
  wp_walk using wpAny_loadPart' hx
  exact h
/-- x.__ne__(b) by object's own, x's __eq__ answers a truth value -/
theorem fu_neTry {b : Value} (hu : A.in1.units < cLine) (X : K.In s.heap) (I : InstAt s.heap x ox C od) (hm : mroIn K C (.type "object") = some true)
    (hne : findIn K (.ref C) "__ne__" = some (some (.builtin "object.__ne__"))) (hs : findIn K (.ref C) "__eq__" = some (some (.ref f))) (hf : isFn K (.ref f) = true)
    (h : wpAny (model prog w) A.in1 (call (.ref f) [.ref x, b]) (fun v s' => ∃ c, v = .bool c ∧ Q (.bool (!c)) s') E s) : wpAny (model prog w) A (tryCompare (.ref x) "__ne__" b) (fun r s' => ∃ v, r = some v ∧ Q v s') E s := by
  unfold tryCompare
  have sub : Looks (model prog w) s.heap (isInstance (.ref x) (.type "object")) true := I.type.andThen (looks_mroIn X hm)
  have core : wpAny (model prog w) A (call (.builtin "object.__ne__") [.ref x, b]) (fun v s' => ∃ c, v = .bool c ∧ Q v s') E s := by
    refine wpAny_call (codeAny_call_builtin fu_nePlain PySem.F.cmpEntry_ne (@check_slot (model prog w) _ _ s "object.__ne__" "object" "__ne__" (.ref x) [b] [] _ PySem.F.cmpKind_ne PySem.F.cmpSplit_ne sub (PySem.F.cmpArgs_ne _ _) ?_))
    unfold Builtin.«object.__ne__»
    refine wpAny_bind (wpAny_of_eq (a := ((Value.ref x : Value), [b])) (by first | rfl | (simp only [slotArgs]; rfl)) ?_)
    refine wpAny_bind (wpAny_cRoomFor hu (wpAny_bind (ifBound_K X I hs hf (wpAny_mono h (fun v s' z => ?_) fun _ _ e => e))))
    obtain ⟨c, rfl, q⟩ := z
    show wpAny _ _ (truthy (.bool c) >>= fun r => ret (.bool (!r))) _ _ _
    exact wpAny_bind (wpAny_truthy_bool (wpAny_pure ⟨_, rfl, q⟩))
  refine wpAny_bind ?_
  simp only [callSpecialIfBound?, bindSpecialIfBound?]
  refine wpAny_holding (wpAny_bind (wpAny_bind (wpAny_bind (I.type.here ((looks_findIn X hne).here ?_)))))
  simp only [fu_neBind]
  refine wpAny_bind (wpAny_askSetting (wpAny_ite ?_))
  have fin : wpAny (model prog w) A (call (.builtin "object.__ne__") ([.ref x] ++ [b]) >>= fun v => pure (some v)) (fun r s₁ => wpAny (model prog w) A (match r with | some .notImplemented => pure none | none => pure none | some v => pure (some v)) (fun r s' => ∃ v, r = some v ∧ Q v s') E s₁) E s := by
    refine wpAny_bind (wpAny_mono core (fun v s' z => ?_) fun _ _ e => e)
    obtain ⟨c, rfl, q⟩ := z
    exact wpAny_pure (wpAny_pure ⟨_, rfl, q⟩)
  split
  · exact wpAny_bind (wpAny_pure (wpAny_pure fin))
  · exact wpAny_tryCatch (wpAny_bind (wpAny_pure (wpAny_pure fin)))
/-- a rich comparison of a built-in's value with an own instance, by what the instance's try answers -/
theorem fu_rightG {op : CmpOp} {a : Value} {T i : String} (hu : A.units < cLine) (X : K.In s.heap) (I : InstAt s.heap x ox C od) (ha : s.TypeIs a T) (S : Slot T (cmpInfo op).2.1 i) (hm : mroIn K C (.type T) = some false)
    (hc : ∀ Q' : Value → Shared → Prop, Q' .notImplemented s → wpAny (model prog w) A (call (.builtin i) [a, .ref x]) Q' E s)
    (one : wpAny (model prog w) A (tryCompare (.ref x) (cmpInfo op).2.2 a) (fun r s' => ∃ v, r = some v ∧ Q v s') E s) : wpAny (model prog w) A (richCompare op a (.ref x)) Q E s := by
  unfold richCompare
  simp only [ha.oneThing_none]
  refine wpAny_holding (wpAny_bind (wpAny_cRoomFor hu (wpAny_bind (wpAny_typeOf ha (wpAny_bind (I.type.here ?_))))))
  rw [if_pos (show (Value.type T != Value.ref C) = true from rfl)]
  refine wpAny_bind ((looks_mroIn X hm).here ?_)
  simp only [Bool.false_eq_true, if_false, Bool.not_false, if_true]
  refine wpAny_bind (m := tryCompare a _ (.ref x)) (wpAny_tryCompare_declines ha S (hc _ ⟨rfl, ?_⟩))
  refine wpAny_bind (wpAny_mono one (fun r s' z => ?_) fun _ _ e => e)
  obtain ⟨v, rfl, q⟩ := z
  exact wpAny_pure q
end
end PySem.W

/-! The same as rules: operators of own instances. -/
namespace Fu
open PySem L2
open PyProof.Rows hiding St
open L2H (RoomH roomH_of)
/-- a statement that is never reached -/
def tNever : TS := fun _ _ _ => False
theorem ps_never {X : Cx} {st : Stmt} : PS X st tNever := ⟨fun pins s σ H D I h => h.elim⟩
theorem pss_never {X : Cx} {st : List Stmt} : PSs X st tNever := ⟨fun pins s σ H D I h => h.elim⟩
/-- the class has a method of that name -/
structure Own (K : PySem.W.Frag) (C : Addr) (x : Str) (f : Addr) : Prop where
  at_ : PySem.W.findIn K (.ref C) x = some (some (.ref f))
  fn : PySem.W.isFn K (.ref f) = true
/-- a + b and its like: the class's method and its reflected one -/
structure OwnB (K : PySem.W.Frag) (C : Addr) (op : Operator) (f g : Addr) : Prop where
  one : Own K C (PySem.dunder op.info.2) f
  refl : Own K C (dunderR op.info.2) g
  sf : PySem.W.selfFirst K C = true
  i1 : ∃ id, PySem.W.findIn K (.type "int") (PySem.dunder op.info.2) = some (some (.builtin id)) ∧ Slot "int" (PySem.dunder op.info.2) id ∧ isSeqSlot (some (.builtin id)) = false ∧
    ∀ (P : Program) (w : World) (A : Around) (E : Value → Shared → Prop) (s : Shared) (x dx : Addr) (i : Int) (t : Tok) (Q : Value → Shared → Prop), s.heap.get? x = some (PySem.W.instObj C dx) → Q .notImplemented s → wpAny (model P w) A (call (.builtin id) [.int i t, .ref x]) Q E s
  i2 : ∃ id, PySem.W.findIn K (.type "int") (dunderR op.info.2) = some (some (.builtin id))
  si : PySem.W.subIn K (.ref C) (.type "int") = some false
section
variable {X : Cx} {k : Nat} {f g C : Addr} {fd fdg : FuncData} {ps : List Str} {sp : Sp}
theorem sub_int {K : PySem.W.Frag} {C : Addr} : PySem.W.subIn K (.type "int") (.ref C) = some false := by with_unfolding_all rfl
/-- x op y, x an own instance, y one of its class or an int -/
def rBin (C : Addr) (sp : Sp) : R2 := fun x y H Q => ∃ a dx fs, x = .ref a ∧ H a = some (.ins C dx fs) ∧ ((∃ i, y = .int i) ∨ ∃ b dy gs, y = .ref b ∧ H b = some (.ins C dy gs)) ∧ sp [x, y] H Q E0
theorem op_bin {op : Operator} (F : FnOk X.prog X.w X.K X.mg X.base CX0 k f fd ps sp) (hr : Room k X.A) (O : OwnB X.K C op f g) (hb : Binds X.K fd ps []) : OpR X (binaryOp op) (rBin C sp) := by
  intro pins s σ H x y u v Q I rx ry h
  obtain ⟨a, dx, fs, rfl, ha, hy, q⟩ := h
  obtain rfl : u = Value.ref a := rx
  obtain ⟨od, J⟩ := inst_of I ha
  obtain ⟨m, hF⟩ := I.fr
  have go : wpAny (model X.prog X.w) X.A (call (.ref f) [.ref a, v]) (PySem.W.CmpBack (EP X pins σ Q)) X.xe s :=
    thn (run_at (A := X.A) (E := E0) (us := [.ref a, v]) (vs := [.ref a, y]) F hr I.ok.frames hb I (.cons rfl (.cons ry .nil)) q) fun z s' hh => back_of hh
  rcases hy with ⟨i, rfl⟩ | ⟨b, dy, gs, rfl, hb'⟩
  · obtain ⟨t, rfl⟩ := ry
    obtain ⟨id, h1, _, _, _⟩ := O.i1
    obtain ⟨id', h2⟩ := O.i2
    exact PySem.W.ksp_binT (T := "int") hF I.ok.mod.kin J rfl O.sf O.one.at_ O.one.fn O.refl.at_ (.inr ⟨_, rfl⟩) h1 h2 sub_int go
  · obtain rfl : v = Value.ref b := ry
    obtain ⟨od', J'⟩ := inst_of I hb'
    exact PySem.W.binop_K hF I.ok.mod.kin J J'.type O.sf O.one.at_ O.one.fn go
/-- i op y, y an own instance -/
def rBinR (C : Addr) (sp : Sp) : R2 := fun x y H Q => ∃ i a dx fs, x = .int i ∧ y = .ref a ∧ H a = some (.ins C dx fs) ∧ sp [y, x] H Q E0
theorem op_binR {op : Operator} (F : FnOk X.prog X.w X.K X.mg X.base CX0 k g fdg ps sp) (hr : Room k X.A) (O : OwnB X.K C op f g) (hb : Binds X.K fdg ps []) : OpR X (binaryOp op) (rBinR C sp) := by
  intro pins s σ H x y u v Q I rx ry h
  obtain ⟨i, a, dx, fs, rfl, rfl, ha, q⟩ := h
  obtain rfl : v = Value.ref a := ry
  obtain ⟨t, rfl⟩ := id rx
  obtain ⟨od, J⟩ := inst_of I ha
  obtain ⟨id1, h1, S, hq, hd⟩ := O.i1
  obtain ⟨id2, h2⟩ := O.i2
  exact PySem.W.fu_binR I.kIn J O.sf S h1 h2 hq (fun Q' q' => hd _ _ _ _ _ _ _ _ _ _ J.1 q') O.one.at_ O.refl.at_ O.refl.fn O.si
    (thn (run_at (A := X.A) (E := E0) (us := [.ref a, .int i t]) (vs := [.ref a, .int i]) F hr I.ok.frames hb I (.cons rfl (.cons rx .nil)) q) fun z s' hh => back_of hh)
/-- i < y and its like, y an own instance: by y's reflected method -/
structure IntC (op : CmpOp) (C : Addr) : Prop where
  ex : ∃ id, Slot "int" (cmpInfo op).2.1 id ∧ ∀ (P : Program) (w : World) (A : Around) (E : Value → Shared → Prop) (s : Shared) (x dx : Addr) (i : Int) (t : Tok) (Q : Value → Shared → Prop), s.heap.get? x = some (PySem.W.instObj C dx) → Q .notImplemented s → wpAny (model P w) A (call (.builtin id) [.int i t, .ref x]) Q E s
theorem intc_lt : IntC .Lt C := ⟨_, PySem.F.slot_int_lt, fun _ _ _ _ _ _ _ _ _ _ hx q => PySem.W.fu_dI_lt hx q⟩
theorem intc_le : IntC .LtE C := ⟨_, PySem.F.slot_int_le, fun _ _ _ _ _ _ _ _ _ _ hx q => PySem.W.fu_dI_le hx q⟩
theorem intc_gt : IntC .Gt C := ⟨_, PySem.F.slot_int_gt, fun _ _ _ _ _ _ _ _ _ _ hx q => PySem.W.fu_dI_gt hx q⟩
theorem intc_ge : IntC .GtE C := ⟨_, PySem.F.slot_int_ge, fun _ _ _ _ _ _ _ _ _ _ hx q => PySem.W.fu_dI_ge hx q⟩
theorem intc_ne : IntC .NotEq C := ⟨_, PySem.F.slot_int_ne, fun _ _ _ _ _ _ _ _ _ _ hx q => PySem.W.fu_dI_ne hx q⟩
theorem intc_eq : IntC .Eq C := ⟨_, PySem.F.slot_int_eq, fun _ _ _ _ _ _ _ _ _ _ hx q => PySem.W.fu_dInt hx q⟩
theorem op_cmpR {op : CmpOp} (Ic : IntC op C) (F : FnOk X.prog X.w X.K X.mg X.base CX0 k f fd ps sp) (hr : Room k X.A) (hm : PySem.W.mroIn X.K C (.type "int") = some false) (O : Own X.K C (cmpInfo op).2.2 f) (hb : Binds X.K fd ps [])
    (ho : ∀ a b, compareOp op a b = richCompare op a b) : OpR X (compareOp op) (rBinR C sp) := by
  intro pins s σ H x y u v Q I rx ry h
  obtain ⟨i, a, dx, fs, rfl, rfl, ha, q⟩ := h
  obtain rfl : v = Value.ref a := ry
  obtain ⟨t, rfl⟩ := id rx
  obtain ⟨od, J⟩ := inst_of I ha
  obtain ⟨id1, S, hd⟩ := Ic.ex
  rw [ho]
  exact PySem.W.fu_right hr.units0 I.kIn J (typeIs_int s i t) S hm (fun Q' q' => hd _ _ _ _ _ _ _ _ _ _ J.1 q') O.at_ O.fn
    (thn (run_at (A := X.A) (E := E0) (us := [.ref a, .int i t]) (vs := [.ref a, .int i]) F hr I.ok.frames hb I (.cons rfl (.cons rx .nil)) q) fun z s' hh => back_of hh)
/-- i != y -/
def rNeR (C : Addr) (sp : Sp) : R2 := fun x y H Q => ∃ i a dx fs, x = .int i ∧ y = .ref a ∧ H a = some (.ins C dx fs) ∧ sp [y, x] H (fun v H' => ∃ c, v = .bl c ∧ Q (.bl (!c)) H') E0
theorem op_neR (F : FnOk X.prog X.w X.K X.mg X.base CX0 k f fd ps sp) (hr : Room (k + 1) X.A) (hi : PySem.W.mroIn X.K C (.type "int") = some false) (hm : PySem.W.mroIn X.K C (.type "object") = some true) (hne : PySem.W.findIn X.K (.ref C) "__ne__" = some (some (.builtin "object.__ne__")))
    (O : Own X.K C "__eq__" f) (hb : Binds X.K fd ps []) : OpR X (compareOp .NotEq) (rNeR C sp) := by
  intro pins s σ H x y u v Q I rx ry h
  obtain ⟨i, a, dx, fs, rfl, rfl, ha, q⟩ := h
  obtain rfl : v = Value.ref a := ry
  obtain ⟨t, rfl⟩ := id rx
  obtain ⟨od, J⟩ := inst_of I ha
  show wpAny _ _ (richCompare .NotEq (.int i t) (.ref a)) _ _ _
  refine PySem.W.fu_rightG (hr.mono (Nat.zero_le _)).units0 I.kIn J (typeIs_int s i t) PySem.F.slot_int_ne hi (fun Q' q' => PySem.W.fu_dI_ne J.1 q') (PySem.W.fu_neTry (by have := hr.un; show X.A.units + 1 < cLine; omega) I.kIn J hm hne O.at_ O.fn ?_)
  refine thn (run_at (A := X.A.in1) (E := E0) (us := [.ref a, .int i t]) (vs := [.ref a, .int i]) F hr.in1 I.ok.frames hb I (.cons rfl (.cons rx .nil)) q) fun z s' hh => ?_
  obtain ⟨v', H', I', rv, c, rfl, q'⟩ := hh
  obtain rfl : z = Value.bool c := rv
  exact ⟨c, rfl, .bl (!c), H', I', rfl, q'⟩
/-- -x -/
def rUnO (C : Addr) (sp : Sp) : V → Hp → VK → Prop := fun x H Q => ∃ a dx fs, x = .ref a ∧ H a = some (.ins C dx fs) ∧ sp [x] H Q E0
theorem un_negO (F : FnOk X.prog X.w X.K X.mg X.base CX0 k f fd ps sp) (hr : Room k X.A) (O : Own X.K C "__neg__" f) (hb : Binds X.K fd ps []) : UnR X (unaryOp .USub) (rUnO C sp) := by
  intro pins s σ H x u Q I rx h
  obtain ⟨a, dx, fs, rfl, ha, q⟩ := h
  obtain rfl : u = Value.ref a := rx
  obtain ⟨od, J⟩ := inst_of I ha
  obtain ⟨m, hF⟩ := I.fr
  exact PySem.W.ksp_neg hF I.ok.mod.kin J O.at_ O.fn (run_at (A := X.A) (E := E0) (us := [.ref a]) (vs := [.ref a]) F hr I.ok.frames hb I (.cons rfl .nil) q)
def rC1O (C : Addr) (sp : Sp) : List V → Hp → VK → Prop := fun xs H Q => ∃ a dx fs, xs = [.ref a] ∧ H a = some (.ins C dx fs) ∧ sp [.ref a] H Q E0
theorem call_absO (F : FnOk X.prog X.w X.K X.mg X.base CX0 k f fd ps sp) (hr : Room (k + 1) X.A) (O : Own X.K C "__abs__" f) (hb : Binds X.K fd ps []) : CallR X (.builtin "abs") (rC1O C sp) := by
  intro pins s σ H xs us Q I r h
  obtain ⟨a, dx, fs, rfl, ha, q⟩ := h
  obtain rfl := Vals.ref1 r
  obtain ⟨od, J⟩ := inst_of I ha
  exact PySem.W.fu_abs I.kIn J O.at_ O.fn (run_at (A := X.A.in1) (E := E0) (us := [.ref a]) (vs := [.ref a]) F hr.in1 I.ok.frames hb I (.cons rfl .nil) q)
/-- bool(x), str(x): the method answers a truth value, a text -/
def rC1B (C : Addr) (sp : Sp) : List V → Hp → VK → Prop := fun xs H Q => ∃ a dx fs, xs = [.ref a] ∧ H a = some (.ins C dx fs) ∧ sp [.ref a] H (fun v H' => ∃ c, v = .bl c ∧ Q (.bl c) H') E0
theorem call_boolO (F : FnOk X.prog X.w X.K X.mg X.base CX0 k f fd ps sp) (hr : Room (k + 2) X.A) (O : Own X.K C "__bool__" f) (hb : Binds X.K fd ps []) : CallR X (.type "bool") (rC1B C sp) := by
  intro pins s σ H xs us Q I r h
  obtain ⟨a, dx, fs, rfl, ha, q⟩ := h
  obtain rfl := Vals.ref1 r
  obtain ⟨od, J⟩ := inst_of I ha
  refine PySem.W.fu_bool I.kIn J O.at_ O.fn (thn (run_at (A := X.A.in1.in1) (E := E0) (us := [.ref a]) (vs := [.ref a]) F hr.in1.in1 I.ok.frames hb I (.cons rfl .nil) q) fun z s' hh => ?_)
  obtain ⟨v', H', I', rv, c, rfl, q'⟩ := hh
  obtain rfl : z = Value.bool c := rv
  exact ⟨c, rfl, .bl c, H', I', rfl, q'⟩
def rC1S (C : Addr) (sp : Sp) : List V → Hp → VK → Prop := fun xs H Q => ∃ a dx fs, xs = [.ref a] ∧ H a = some (.ins C dx fs) ∧ sp [.ref a] H (fun v H' => ∃ c, v = .str c ∧ Q (.str c) H') E0
theorem call_strO (F : FnOk X.prog X.w X.K X.mg X.base CX0 k f fd ps sp) (hr : Room (k + 2) X.A) (O : Own X.K C "__str__" f) (hb : Binds X.K fd ps []) : CallR X (.type "str") (rC1S C sp) := by
  intro pins s σ H xs us Q I r h
  obtain ⟨a, dx, fs, rfl, ha, q⟩ := h
  obtain rfl := Vals.ref1 r
  obtain ⟨od, J⟩ := inst_of I ha
  refine PySem.W.fu_str (by have := hr.un; show X.A.units + 1 + 1 < cLine; omega) I.kIn J O.at_ O.fn (thn (run_at (A := X.A.in1.in1) (E := E0) (us := [.ref a]) (vs := [.ref a]) F hr.in1.in1 I.ok.frames hb I (.cons rfl .nil) q) fun z s' hh => ?_)
  obtain ⟨v', H', I', rv, c, rfl, q'⟩ := hh
  obtain ⟨t, rfl⟩ := rv
  exact ⟨c, t, rfl, .str c, H', I', ⟨t, rfl⟩, q'⟩
end
end Fu

/-! repr of a list of own instances. -/
namespace PySem.W
open PySem PySem.Calls PyProof.Rows Builtin
section
variable {prog : Program} {w : World} {A : Around} {E : Value → Shared → Prop} {s : Shared} {K : Frag} {x C f : Addr} {ox : Obj} {od : Option Obj} {Q : Str → Shared → Prop}
theorem fu_under {b : Nat} (hb : b ≤ sizeLine) (hu : A.units < cLine) (X : K.In s.heap) (I : InstAt s.heap x ox C od) (hs : findIn K (.ref C) "__repr__" = some (some (.ref f))) (hf : isFn K (.ref f) = true)
    (h : wpAny (model prog w) A (call (.ref f) [.ref x]) (fun v s' => ∃ z t, v = .str z t ∧ Q z s') E s) : wpAny (model prog w) A (pyReprUnder b (.ref x)) Q E s := by
  refine wpAny_pyReprUnder_ref hb ?_
  unfold pyReprObjUnder pyReprObjBy
  refine wpAny_bind (wpAny_cRoomFor hu ?_)
  refine wpAny_bind (wpAny_bind (I.type.here ((looks_findIn X hs).here ?_)))
  show wpAny _ _ (if (some (Value.ref f)).isNone = true then _ else _) _ _ _
  rw [if_neg (by simp)]
  refine wpAny_bind ?_
  simp only [callSpecialIfBoundBy?, bindSpecialIfBound?]
  refine wpAny_holding (wpAny_bind (wpAny_bind (wpAny_bind (I.type.here ((looks_findIn X hs).here ?_)))))
  refine wpAny_bind (wpAny_askSetting (wpAny_ite ?_))
  have bnd := bind_fn (M := model prog w) X (.ref x) (beq_iff_eq.mp hf)
  have fin : ∀ {Q2 : Option Value → Shared → Prop}, (∀ v s', (∃ z t, v = Value.str z t ∧ Q z s') → Q2 (some v) s') → wpAny (model prog w) A (call (.ref f) ([.ref x] ++ []) >>= fun v => pure (some v)) Q2 E s := fun kk => wpAny_bind (wpAny_mono h (fun v s' h' => wpAny_pure (kk v s' h')) fun _ _ h' => h')
  split
  · refine wpAny_bind (bnd.here (wpAny_pure ?_))
    refine fin fun v s' z => ?_
    obtain ⟨z, t, rfl, q⟩ := z
    exact wpAny_bind (wpAny_isInstance (typeIs_str _ _ _) isSubtype_str_str (wpAny_pure ⟨z, t, rfl, q⟩))
  · refine wpAny_tryCatch (wpAny_bind (bnd.here (wpAny_pure ?_)))
    refine fin fun v s' z => ?_
    obtain ⟨z, t, rfl, q⟩ := z
    exact wpAny_bind (wpAny_isInstance (typeIs_str _ _ _) isSubtype_str_str (wpAny_pure ⟨z, t, rfl, q⟩))
end
end PySem.W
namespace Fu
open PySem L2
open PyProof.Rows hiding St
open L2H (RoomH roomH_of)
theorem und_un (A : Around) (args : Args) : (A.under (.builtin "list.__repr__.loop" args)).units = A.units + 1 := units_under_list_loop A args
theorem und_dp (A : Around) (args : Args) : (A.under (.builtin "list.__repr__.loop" args)).depth = A.depth + 1 := by
  have e : (Code.builtin "list.__repr__.loop" args).weight = 1 := by
    unfold Code.weight
    rw [isGuard_list_loop]
    rfl
  show A.depth + _ = _
  rw [e]
theorem und_fr (A : Around) (args : Args) : (A.under (.builtin "list.__repr__.loop" args)).frames = A.frames := by
  first | rfl | simp [Around.under, Code.cUnits, Code.frames, Code.isFrame]
theorem und_room {k : Nat} {A : Around} {args : Args} (h : RoomH (k + 1) A) : RoomH k (A.under (.builtin "list.__repr__.loop" args)) := ⟨by have := h.dp; rw [und_dp]; omega, by have := h.un; rw [und_un]; omega⟩
/-- texts in a row -/
theorem strs_of : ∀ {ts : List Str} {its : List Value}, Vals (ts.map V.str) its → ∃ done : List (Str × Tok), its = strValues done ∧ done.map (·.1) = ts
  | [], _, r => by
    cases r
    exact ⟨[], rfl, rfl⟩
  | t :: ts, _, r => by
    cases r with
    | cons r1 r2 =>
      obtain ⟨tk, rfl⟩ := r1
      obtain ⟨done, rfl, e⟩ := strs_of r2
      exact ⟨(t, tk) :: done, rfl, by rw [List.map_cons, e]⟩
section
variable {X : Cx} {pins : List (Addr × Obj)} {σ : St} {C : Addr}
theorem upd_twice {H : Hp} {a : Addr} {o o' : HO} : upd (upd H a o) a o' = upd H a o' := by
  funext b
  by_cases h : b = a
  · subst h
    rw [upd_same, upd_same]
  · rw [upd_ne h, upd_ne h, upd_ne h]
theorem loop_repr {f : Addr} {fd : FuncData} {A : Around} {R : Result → Shared → Prop} {H : Hp} {a p : Addr} {vs : List V} {l : List (Int × Int)} (T : ReprC X.prog X.w X.K X.mg X.base C f fd (spRepr C)) (hr : RoomH 2 A) (hf : A.frames = some X.stack)
    (ha : H a = some (.lst vs)) (hp : H p = none) (hl : vs.length = l.length) (hv : ∀ (i : Nat) (v : V), vs[i]? = some v → ∃ (n m : Int) (b dx : Addr), l[i]? = some (n, m) ∧ v = .ref b ∧ H b = some (.ins C dx (rf n m)) ∧ n.natAbs.log2 < 1900 ∧ m.natAbs.log2 < 1900)
    (hsz : (listText (l.map fun z => rTxt z.1 z.2)).length ≤ sizeLine)
    (hR : ∀ s' H' u, Inv X pins σ H' s' → Same H H' → R (.ok (.ret (.str (listText (l.map fun z => rTxt z.1 z.2)) u))) s') (hE : ∀ e s', X.xe e s' → R (.error e) s') :
    ∀ (k i : Nat) (s : Shared), l.length - i = k → i ≤ l.length → Inv X pins σ (upd H p (.lst (((l.map fun z => rTxt z.1 z.2).take i).map V.str))) s →
      codeAny (model X.prog X.w) A (.builtin "list.__repr__.loop" ⟨[.ref a, rawInt i, .ref p, rawInt ((0 + piled ((l.map fun z => rTxt z.1 z.2).take i) : Nat) : Int)], []⟩) R s := by
  have nap : a ≠ p := ne_of_none ha hp
  generalize hts : (l.map fun z => rTxt z.1 z.2) = ts at *
  have hlt : ts.length = l.length := by rw [← hts, List.length_map]
  have hXl : (listText ts).length = (textFrom 0 "[" ts).length + 1 := by
    unfold listText
    rw [strLen_append]
    rfl
  have hL := textFrom_len ts 0 "["
  have hz1 : ts.length ≤ sizeLine := by
    have h1 := hL.1
    rw [if_neg (Nat.lt_irrefl 0)] at h1
    omega
  have hz2 : ∀ t ∈ ts, t.length ≤ sizeLine := fun t ht => by
    have h2 := hL.2.1 t ht
    omega
  have hp3 := piled_le_listText ts
  intro k
  induction k with
  | zero =>
    intro i s hk hi I
    have hin : i = ts.length := by omega
    subst hin
    obtain ⟨_, its, n, rv, _, e⟩ := I.lstM (l := a) (by rw [upd_ne nap]; exact ha)
    obtain ⟨_, jts, n2, rw2, _, e2⟩ := I.lstM (l := p) upd_same
    rw [List.take_length] at rw2
    obtain ⟨done, rfl, ed⟩ := strs_of rw2
    refine codeAny_builtin PySem.F.entry_list_repr_loop ?_
    have st : ∀ q : Nat, rawInt ((0 + q : Nat) : Int) = Value.int ((0 + q : Nat) : Int) 0 := fun _ => rfl
    show wpAny _ _ (Builtin.«list.__repr__.loop» ⟨[.ref a, .int ((ts.length : Nat) : Int) 0, .ref p, .int _ 0], []⟩) _ _ s
    rw [repr_loop_tree]
    refine wpAny_bind (wpAny_listItems e rfl ?_)
    have hn : its.toArray[((ts.length : Nat) : Int).toNat]? = none := by
      have hlen := rv.length
      simp
      omega
    simp only [hn]
    unfold reprEnd
    refine wpAny_bind (wpAny_listItems e2 rfl ?_)
    rw [show (strValues done).toArray.toList = strValues done by simp, repr_fold]
    refine wpAny_bind (wpAny_pure ?_)
    rw [ed]
    refine wpAny_bind (wpAny_mkStr (wpAny_pure ?_) hsz)
    exact hR _ _ _ (I.tok _) fun b o hb => by
      rw [upd_ne (ne_of_none hb hp)]
      exact hb
  | succ k ih =>
    intro i s hk hi I
    have hil : i < ts.length := by omega
    obtain ⟨_, its, n, rv, elen, e⟩ := I.lstM (l := a) (by rw [upd_ne nap]; exact ha)
    have hiv : i < vs.length := by omega
    have hii : i < its.length := by omega
    have hvv : vs[i]? = some (vs[i]'hiv) := by simp [hiv]
    obtain ⟨nn, mm, b, dx, hli, hvi, hb, l1, l2⟩ := hv i (vs[i]'hiv) hvv
    have hti : ts[i]? = some (rTxt nn mm) := by
      rw [← hts, List.getElem?_map, hli]
      rfl
    obtain ⟨u, hu, ru⟩ := rv.get hvv
    rw [hvi] at ru
    obtain rfl : u = Value.ref b := ru
    have hp1 := piled_take_succ hti
    have hp2 := piled_take_le ts (i + 1)
    refine codeAny_builtin PySem.F.entry_list_repr_loop ?_
    show wpAny _ _ (Builtin.«list.__repr__.loop» ⟨[.ref a, .int ((i : Nat) : Int) 0, .ref p, .int ((0 + piled (ts.take i) : Nat) : Int) 0], []⟩) _ _ s
    rw [repr_loop_tree]
    refine wpAny_bind (wpAny_listItems e rfl ?_)
    have hn : its.toArray[((i : Nat) : Int).toNat]? = some (.ref b) := by
      rw [Int.toNat_natCast]
      simpa using hu
    simp only [hn]
    rw [Int.toNat_natCast]
    have hb1 : (upd H p (.lst ((ts.take i).map V.str))) b = some (.ins C dx (rf nn mm)) := by
      rw [upd_ne (ne_of_none hb hp)]
      exact hb
    obtain ⟨od, J⟩ := inst_of I hb1
    refine wpAny_bind (wpAny_holding (PySem.W.fu_under (by omega) (by rw [und_un]; have := hr.un; omega) I.kIn J T.hs T.hf ?_))
    refine wpAny_mono (run_any (E := E0) (us := [.ref b]) (vs := [.ref b]) T.ok (und_room hr) (by rw [und_fr]; exact hf) T.b I (.cons rfl .nil) (Q := fun v H' => v = .str (rTxt nn mm) ∧ H' = upd H p (.lst ((ts.take i).map V.str))) ⟨b, dx, nn, mm, rfl, hb1, l1, l2, rfl, rfl⟩) (fun z s' hh => ?_) fun e s' q => hE e s' q
    obtain ⟨v', H', I', rv', rfl, rfl⟩ := hh
    obtain ⟨tk, rfl⟩ := rv'
    refine ⟨_, _, rfl, ?_⟩
    refine wpAny_bind (wpAny_mkStr ?_ (hz2 _ (List.mem_of_getElem? hti)))
    refine wpAny_bind ?_
    show wpAny _ _ (updateSeq p _) _ _ _
    have I2 := I'.tok (s'.toks + 1)
    obtain ⟨_, jts, n2, rw2, jl, e2⟩ := I2.lstM (l := p) upd_same
    have hjs : jts.length = i := by
      rw [← jl, List.length_map, List.length_take]
      omega
    refine wpAny_updateSeq e2 rfl (wpAny_pure ⟨PySem.F.quiet_list_repr_loop _, ?_⟩) (by rw [List.size_toArray, hjs]; omega)
    have e3 : ((i : Int) + 1) = ((i + 1 : Nat) : Int) := by omega
    have e4 : 0 + piled (ts.take i) + ((rTxt nn mm).length + 2) = 0 + piled (ts.take (i + 1)) := by omega
    rw [e3, e4]
    refine ih (i + 1) _ (by omega) (by omega) ?_
    have I3 := I2.lset (l := p) (its' := jts ++ [Value.str (rTxt nn mm) s'.toks]) (f := fun xs => xs.push (Value.str (rTxt nn mm) s'.toks)) (t' := s'.toks + 1) upd_same e2 (by simp) (rw2.append (.cons (show RelV (.str (rTxt nn mm)) (Value.str (rTxt nn mm) s'.toks) from ⟨_, rfl⟩) .nil)) (by rw [List.length_append, List.length_map, List.length_take, List.length_singleton]; omega)
    rw [upd_twice] at I3
    have e5 : (ts.take (i + 1)).map V.str = (ts.take i).map V.str ++ [V.str (rTxt nn mm)] := by
      rw [List.take_add_one, hti, List.map_append]
      rfl
    rw [e5]
    exact I3
/-- repr of a list of Ratios -/
def rReprL (C : Addr) : List V → Hp → VK → Prop := fun xs H Q => ∃ (a : Addr) (vs : List V) (l : List (Int × Int)), xs = [.ref a] ∧ vs ≠ [] ∧ H a = some (.lst vs) ∧ vs.length = l.length ∧
  (∀ (i : Nat) (v : V), vs[i]? = some v → ∃ (n m : Int) (b dx : Addr), l[i]? = some (n, m) ∧ v = .ref b ∧ H b = some (.ins C dx (rf n m)) ∧ n.natAbs.log2 < 1900 ∧ m.natAbs.log2 < 1900) ∧
  (listText (l.map fun z => rTxt z.1 z.2)).length ≤ sizeLine ∧ ∀ H', Same H H' → Q (.str (listText (l.map fun z => rTxt z.1 z.2))) H'
theorem call_reprL {f : Addr} {fd : FuncData} (T : ReprC X.prog X.w X.K X.mg X.base C f fd (spRepr C)) (hg : X.A.guards = some []) (hr : RoomH 3 X.A) : CallR X (.builtin "repr") (rReprL C) := by
  intro pins s σ H xs us Q I r h
  obtain ⟨a, vs, l, rfl, hne, ha, hl, hv, hsz, q⟩ := h
  obtain rfl := Vals.ref1 r
  obtain ⟨_, its, n, rv, el, e⟩ := I.lstM ha
  refine call_repr_slot (by have := hr.un; omega) (T := "list") ⟨_, e, rfl⟩ PySem.F.slot_list_repr.toG ?_
  refine wpAny_call (codeAny_call_builtin PySem.F.slot_list_repr.plain PySem.F.entry_list_repr (PySem.F.slot_list_repr.check _ _ _ _ _ _ _ _ ⟨_, e, rfl⟩ (PySem.F.args_list_repr_1 _) ?_))
  obtain ⟨x, rest, rfl⟩ : ∃ x rest, its = x :: rest := by
    cases its with
    | nil =>
      rw [List.length_nil] at el
      exact absurd (List.eq_nil_of_length_eq_zero el) hne
    | cons x rest => exact ⟨x, rest, rfl⟩
  refine wpAny_list_repr_head (A := X.A.in1.in1) (g := []) hg (fun v rest kw hm => nomatch hm) e rfl ?_
  refine wpAny_bind (m := newList []) (wpAny_newObj_type ?_)
  refine wpAny_pure ⟨PySem.F.quiet_list_repr_loop _, ?_⟩
  have I1 := I.lnew (ys := []) (its := []) (t' := s.toks) .nil (Nat.zero_le _)
  refine loop_repr (pins := pins) (σ := σ) (H := H) (p := s.heap.objs.size) (vs := vs) (l := l) T (A := X.A.in1) (RoomH.in1 hr) I.ok.frames ha I.fresh hl hv hsz (fun s' H' u I' sm => ⟨_, _, rfl, .str _, H', I', ⟨_, rfl⟩, q H' sm⟩) (fun e s' z => z) l.length 0 _ rfl (Nat.zero_le _) ?_
  exact I1
end
end Fu

namespace Fu
open PySem L2
def topS (i : Nat) : Stmt := PySem.Challenge.pw_fusenets_k10_ratios_calculated.main.body.getD i (.Pass ⟨0, 0, 0, 0⟩)
abbrev sInvNum : Stmt := inClass (topS 2) 0
abbrev sIsInt : Stmt := topS 4
abbrev sGcd : Stmt := topS 5
abbrev sInit : Stmt := inClass (topS 6) 0
abbrev sRatio_top : Stmt := inClass (topS 6) 1
abbrev sBot : Stmt := inClass (topS 6) 2
abbrev sRatio_add : Stmt := inClass (topS 6) 3
abbrev sRatio_radd : Stmt := inClass (topS 6) 4
abbrev sRatio_sub : Stmt := inClass (topS 6) 5
abbrev sRatio_rsub : Stmt := inClass (topS 6) 6
abbrev sRatio_mul : Stmt := inClass (topS 6) 7
abbrev sRatio_rmul : Stmt := inClass (topS 6) 8
abbrev sRatio_neg : Stmt := inClass (topS 6) 9
abbrev sRatio_abs : Stmt := inClass (topS 6) 10
abbrev sRatio_bool : Stmt := inClass (topS 6) 11
abbrev sEq : Stmt := inClass (topS 6) 12
abbrev sRatio_lt : Stmt := inClass (topS 6) 13
abbrev sRatio_le : Stmt := inClass (topS 6) 14
abbrev sRatio_gt : Stmt := inClass (topS 6) 15
abbrev sRatio_ge : Stmt := inClass (topS 6) 16
abbrev sOver : Stmt := inClass (topS 6) 17
abbrev sRatio_floor : Stmt := inClass (topS 6) 18
abbrev sRatio_str : Stmt := inClass (topS 6) 19
abbrev sRepr : Stmt := inClass (topS 6) 20
abbrev sIsNum : Stmt := topS 7
abbrev sParts : Stmt := topS 8
abbrev sPool : Stmt := topS 10
abbrev sTake : Stmt := topS 11
abbrev s_law_drawn : Stmt := topS 12
abbrev s_law_is : Stmt := topS 13
abbrev s_law_signs_right : Stmt := topS 14
abbrev s_law_pair_right : Stmt := topS 15
abbrev s_law_one_right : Stmt := topS 16
abbrev sLaw : Stmt := topS 17
end Fu

namespace Fu
open PySem L2
open PyProof.Rows hiding St
def isInt : D → Bool
  | .int _ => true
  | _ => false
/-- names that are still the built-ins' -/
structure Bt (mg : Str → Option Value) : Prop where
  isi : mg "isinstance" = none
  int : mg "int" = none
  bool : mg "bool" = none
  abs : mg "abs" = none
/-- the class Ratio and what isinstance says of it -/
structure RatC (K : PySem.W.Frag) (C : Addr) : Prop where
  ci : ClsI K C
  kInt : PySem.W.kitOne K (.ref C) (.type "int") = some false
  kBool : PySem.W.kitOne K (.ref C) (.type "bool") = some false
  nT : NoAttr K C "own_top"
  nB : NoAttr K C "own_bottom"
section
variable {P : Program} {w : World} {K : PySem.W.Frag} {mg : Str → Option Value} {base : Heap} {C : Addr}
def isI : D → Bool
  | .int _ => true
  | .bl _ => true
  | _ => false
def isB : D → Bool
  | .bl _ => true
  | _ => false
theorem kit_b {a b : String} {r : Bool} (h : kitB a b = some r) : PySem.W.kitOne K (.type a) (.type b) = some r := h
theorem kit_int (R : RatC K C) : ∀ d : D, PySem.W.kitOne K (tyD C d) (.type "int") = some (isI d)
  | .non => kit_b (r := false) (by decide +kernel)
  | .bl _ => kit_b (r := true) (by decide +kernel)
  | .int _ => kit_b (r := true) (by decide +kernel)
  | .str _ => kit_b (r := false) (by decide +kernel)
  | .lst _ => kit_b (r := false) (by decide +kernel)
  | .tup _ => kit_b (r := false) (by decide +kernel)
  | .dic => kit_b (r := false) (by decide +kernel)
  | .rat _ _ => R.kInt
theorem kit_bool (R : RatC K C) : ∀ d : D, PySem.W.kitOne K (tyD C d) (.type "bool") = some (isB d)
  | .non => kit_b (r := false) (by decide +kernel)
  | .bl _ => kit_b (r := true) (by decide +kernel)
  | .int _ => kit_b (r := false) (by decide +kernel)
  | .str _ => kit_b (r := false) (by decide +kernel)
  | .lst _ => kit_b (r := false) (by decide +kernel)
  | .tup _ => kit_b (r := false) (by decide +kernel)
  | .dic => kit_b (r := false) (by decide +kernel)
  | .rat _ _ => R.kBool
theorem isInt_eq (d : D) : isInt d = (isI d && !isB d) := by cases d <;> rfl
/-! ### is_integer -/
def spIsInt (C : Addr) : Sp := fun vs H Q _ => ∃ (d : D) (v : V), vs = [v] ∧ At C H d v ∧ Q (.bl (isInt d)) H
theorem scIsInt : FnScope ["value"] ["value"] (defScope sIsInt) := ⟨rfl, rfl, rfl, by decide +kernel, rfl, by decide +kernel, by decide +kernel⟩
theorem ok_isInt {f : Addr} {fd : FuncData} (F : Fun K "is_integer" "is_integer" sIsInt f fd) (B : Bt mg) (R : RatC K C) : FnOk P w K mg base CX0 1 f fd ["value"] (spIsInt C) := by
  refine F.ok scIsInt (fun vs H Q E h => ?_) (fun cdv A outer s H vs Q E hr h => ?_)
  · obtain ⟨d, v, rfl, _⟩ := h
    rfl
  · obtain ⟨d, v, rfl, a, k⟩ := h
    refine ⟨_, pss_one (ps_ret (pe_and (pe_callB call_isi (by rfl) B.isi (by decide +kernel) (pa_cons (pv 0) (pa_cons (pe_bltn (v := .ty "int") (by rfl) B.int (by decide +kernel) rfl) pa_nil)))
      (pe_one (pe_not (pe_callB call_isi (by rfl) B.isi (by decide +kernel) (pa_cons (pv 0) (pa_cons (pe_bltn (v := .ty "bool") (by rfl) B.bool (by decide +kernel) rfl) pa_nil))))))), ?_⟩
    refine ⟨_, rfl, _, _, _, _, _, rfl, .ty "int", ty_at R.ci a, kit_int R d, _, rfl, ?_⟩
    rw [isInt_eq] at k
    cases h : isI d with
    | false =>
      rw [h] at k
      exact iteF k
    | true =>
      rw [h] at k
      exact iteT ⟨_, rfl, _, _, _, _, _, rfl, .ty "bool", ty_at R.ci a, kit_bool R d, _, rfl, k⟩
/-! ### common_divisor -/
theorem fmod_lt {i j : Int} (h : j ≠ 0) : (i.fmod j).natAbs < j.natAbs := by
  rcases Int.lt_or_gt_of_ne h with hj | hj
  · rw [Int.fmod_eq_emod]
    have h1 := Int.emod_nonneg i h
    have h2 := Int.emod_lt i h
    split
    · omega
    · rename_i z
      have h3 : ¬ i % j = 0 := fun q => z (.inr (Int.dvd_of_emod_eq_zero q))
      omega
  · have h1 := Int.fmod_nonneg_of_pos i hj
    have h2 := Int.fmod_lt_of_pos i hj
    omega
theorem gcd_fmod (i j : Int) : Int.gcd j (i.fmod j) = Int.gcd i j := by
  rw [Int.fmod_def, Int.gcd_sub_mul_left_right, Int.gcd_comm]
theorem gcd_zero_abs (i : Int) : (if i < 0 then -i else i) = (Int.gcd i 0 : Int) := by
  rw [Int.gcd_zero_right]
  split <;> omega
def spGcd : Sp := fun vs H Q _ => ∃ (i j : Int), vs = [.int i, .int j] ∧ Q (.int (Int.gcd i j)) H
theorem scGcd : FnScope ["one", "other"] ["one", "other"] (defScope sGcd) := ⟨rfl, rfl, rfl, by decide +kernel, rfl, by decide +kernel, by decide +kernel⟩
theorem ok_gcd {f : Addr} {fd : FuncData} (F : Fun K "common_divisor" "common_divisor" sGcd f fd) (B : Bt mg) : FnOk P w K mg base CX0 1 f fd ["one", "other"] spGcd := by
  refine F.ok scGcd (fun vs H Q E h => ?_) (fun cdv A outer s H vs Q E hr h => ?_)
  · obtain ⟨i, j, rfl, _⟩ := h
    rfl
  · obtain ⟨i, j, rfl, k⟩ := h
    refine ⟨_, pss_cons (ps_while PassesOwn.never (pt_cmpR op_ne (pv 1) pe_int (nomark _))
        (pss_one (ps_par rfl scGcd.nd (i := 0) (j := 1) rfl rfl (by decide) rfl rfl (pa_cons (pv 1) (pa_cons (pe_op op_modN (pv 0) (pv 1)) pa_nil)) (by rfl))))
      (pss_one (ps_ret (pe_callB call_abs (by rfl) B.abs (by decide +kernel) (pa_cons (pv 0) pa_nil)))), ?_⟩
    refine while_by (fun σ H' => H' = H ∧ ∃ a b : Int, σ = [some (.int a), some (.int b)] ∧ Int.gcd a b = Int.gcd i j)
      (fun σ _ => match σ with | [_, some (.int b)] => b.natAbs | _ => 0) ⟨rfl, i, j, rfl, rfl⟩ ?_ ?_
    · rintro σ H' ⟨rfl, a, b, rfl, e⟩
      refine ⟨_, rfl, rfl, _, rfl, ?_⟩
      by_cases hb : b = 0
      · subst hb
        refine iteNS rfl ?_
        refine ⟨_, rfl, _, rfl, ?_⟩
        rw [gcd_zero_abs, e]
        exact k
      · refine if_true_of (by simp [hb]) ?_
        refine ⟨_, rfl, _, rfl, _, rfl, _, _, rfl, rfl, hb, _, _, rfl, ⟨rfl, b, a.fmod b, rfl, ?_⟩, fmod_lt hb⟩
        rw [gcd_fmod]
        exact e
    · rintro σ H' Q1 Q2 m ⟨v, e, h1, b, hb, h2⟩
      exact ⟨v, e, h1, b, hb, m _ _ h2⟩
/-! ### Ratio's __init__ -/
/-- the divisor, the parts in lowest terms -/
def dv (n m : Int) : Int := if m < 0 then -(Int.gcd n m : Int) else Int.gcd n m
def rN (n m : Int) : Int := n.fdiv (dv n m)
def rD (n m : Int) : Int := m.fdiv (dv n m)
theorem dv_ne {n m : Int} (h : m ≠ 0) : dv n m ≠ 0 := by
  have h1 : Int.gcd n m ≠ 0 := fun e => h (Int.gcd_eq_zero_iff.mp e).2
  unfold dv
  split <;> omega
theorem dv_abs {n m : Int} (h : m ≠ 0) : (dv n m).natAbs ≤ m.natAbs := by
  have h1 : Int.gcd n m ∣ m.natAbs := Int.gcd_dvd_natAbs_right n m
  have h2 := Nat.le_of_dvd (by omega) h1
  unfold dv
  split <;> omega
theorem log2_mono {a b : Nat} (h : a ≤ b) : a.log2 ≤ b.log2 := by
  by_cases ha : a = 0
  · subst ha
    simp
  · exact (Nat.le_log2 (by omega)).mpr (Nat.le_trans (Nat.log2_self_le ha) h)
theorem dv_small {n m : Int} (h : m ≠ 0) (hm : m.natAbs.log2 < 9000) : (dv n m).natAbs.log2 < 9000 := Nat.lt_of_le_of_lt (log2_mono (dv_abs h)) hm
/-- the class InvalidNumber, its __init__ -/
structure IN (P : Program) (w : World) (K : PySem.W.Frag) (mg : Str → Option Value) (base : Heap) (CI fX : Addr) (fdX : FuncData) : Prop where
  e : ErrC K mg "InvalidNumber" "value" CI fX
  ok : FnOk P w K mg base CX0 1 fX fdX ["self", "value"] (spX CI "value")
  b : Binds K fdX ["self", "value"] []
def spInit (C CI : Addr) : Sp := fun vs H Q E => ∃ (x dx : Addr) (vt vb : V) (dt db : D), vs = [.ref x, vt, vb] ∧ H x = some (.ins C dx []) ∧ At C H dt vt ∧ At C H db vb ∧
  (isInt dt = false → ∀ d, H d = none → E (.ref CI) (some d) (upd H d (.xd [("value", vt)]))) ∧
  (isInt dt = true → (isInt db = false ∨ db = .int 0) → ∀ d, H d = none → E (.ref CI) (some d) (upd H d (.xd [("value", vb)]))) ∧
  (∀ n m, dt = .int n → db = .int m → m ≠ 0 → m.natAbs.log2 < 9000 ∧ Q .non (upd H x (.ins C dx (rf (rN n m) (rD n m)))))
theorem isInt_int {d : D} (h : isInt d = true) : ∃ n, d = .int n := by
  cases d <;> first | exact ⟨_, rfl⟩ | cases h
theorem scInit : FnScope ["self", "top", "bottom", "divisor"] ["self", "top", "bottom"] (defScope sInit) := ⟨rfl, rfl, rfl, by decide +kernel, rfl, by decide +kernel, by decide +kernel⟩
theorem ok_init {f f1 f2 CI fX : Addr} {fd fd1 fd2 fdX : FuncData} (F : FunD K "__init__" "Ratio.__init__" (defArgs sInit) (defBody sInit) (defScope sInit) [.int 1] [] f fd) (B : Bt mg) (R : RatC K C) (I : IN P w K mg base CI fX fdX)
    (G1 : Def P w K mg base CX0 1 "is_integer" ["value"] (spIsInt C) f1 fd1) (G2 : Def P w K mg base CX0 1 "common_divisor" ["one", "other"] spGcd f2 fd2) :
    FnOk P w K mg base (L2.CX P w) 3 f fd ["self", "top", "bottom"] (spInit C CI) := by
  refine F.ok scInit (fun vs H Q E h => ?_) (fun cdv A outer s H vs Q E hr h => ?_)
  · obtain ⟨x, dx, vt, vb, dt, db, rfl, _⟩ := h
    rfl
  · obtain ⟨x, dx, vt, vb, dt, db, rfl, hx, at1, at2, e1, e2, k⟩ := h
    have hr1 := hr.mono (show 1 ≤ 2 by decide)
    refine ⟨_, pss_cons (ps_if (pt_not (pt_val (pe_def G1 hr1 (pa_cons (pv 1) pa_nil)))) (pss_one (ps_raiseX rfl I.e I.ok hr I.b pass0 (takes_of rfl rfl rfl rfl) (pv 1) (tVar_mono 1))) pss_nil)
      (pss_cons (ps_if (PW.pt (pw_or (pt_not (pt_val (pe_def G1 hr1 (pa_cons (pv 2) pa_nil)))) (pw_or1 (pt_cmpR op_eq (pv 2) pe_int (nomark _))))) (pss_one (ps_raiseX rfl I.e I.ok hr I.b pass0 (takes_of rfl rfl rfl rfl) (pv 2) (tVar_mono 2))) pss_nil)
      (pss_cons (ps_set (i := 3) scInit.nd rfl (Or.inl rfl) (pe_def G2 hr1 (pa_cons (pv 1) (pa_cons (pv 2) pa_nil))))
      (pss_cons (ps_if (pt_cmpR op_lt (pv 2) pe_int (nomark _)) (pss_one (ps_set (i := 3) scInit.nd rfl (Or.inl rfl) (pe_un un_neg (pv 3)))) pss_nil)
      (pss_cons (ps_fld (pv 0) (pe_op op_fdivB (pv 1) (pv 3)) rfl)
      (pss_one (ps_fld (pv 0) (pe_op op_fdivB (pv 2) (pv 3)) rfl)))))), ?_⟩
    refine ⟨_, rfl, dt, vt, rfl, at1, _, rfl, ?_⟩
    cases h1 : isInt dt with
    | false => exact iteT ⟨_, rfl, _, rfl, fun d hd => e1 h1 d hd⟩
    | true =>
      refine iteF ⟨_, rfl, db, vb, rfl, at2, _, rfl, ?_⟩
      cases h2 : isInt db with
      | false => exact iteT (iteT ⟨_, rfl, _, rfl, fun d hd => e2 h1 (.inl h2) d hd⟩)
      | true =>
        obtain ⟨n, rfl⟩ := isInt_int h1
        obtain ⟨m, rfl⟩ := isInt_int h2
        obtain rfl : vt = .int n := at1
        obtain rfl : vb = .int m := at2
        refine iteF ⟨_, rfl, rfl, _, rfl, ?_⟩
        by_cases hm : m = 0
        · subst hm
          exact if_true_of (by simp) ⟨_, rfl, _, rfl, fun d hd => e2 h1 (.inr rfl) d hd⟩
        · refine if_false_of (by simpa using hm) ?_
          obtain ⟨hl, k⟩ := k n m rfl rfl hm
          have hz := dv_ne (n := n) hm
          have hs := dv_small (n := n) hm hl
          refine ⟨_, rfl, _, rfl, n, m, rfl, _, rfl, _, _, rfl, rfl, _, rfl, ?_⟩
          have fin : ∀ z : Int, z = dv n m → tSeq (sFld K (tVar 0) (tOp (rI (fun x j => j ≠ 0 ∧ j.natAbs.log2 < 9000) fun i j => V.int (i.fdiv j)) (tVar 1) (tVar 3)) "own_top")
              (sFld K (tVar 0) (tOp (rI (fun x j => j ≠ 0 ∧ j.natAbs.log2 < 9000) fun i j => V.int (i.fdiv j)) (tVar 2) (tVar 3)) "own_bottom") { nx := fun x H' => Q V.non H', rt := Q } [some (.ref x), some (.int n), some (.int m), some (.int z)] H := by
            rintro z rfl
            refine ⟨_, rfl, _, rfl, _, _, rfl, rfl, ⟨hz, hs⟩, _, rfl, x, C, dx, [], rfl, hx, R.ci.cl, R.nT, (by show 0 < 1000; decide), ?_⟩
            refine ⟨_, rfl, _, rfl, _, _, rfl, rfl, ⟨hz, hs⟩, _, rfl, x, C, dx, _, rfl, upd_same, R.ci.cl, R.nB, (by show 1 < 1000; decide), ?_⟩
            rw [upd_upd]
            exact k
          by_cases hn : m < 0
          · refine if_true_of (by simpa using hn) ⟨_, rfl, _, rfl, ?_⟩
            exact fin _ (by unfold dv; rw [if_pos hn])
          · refine if_false_of (by simpa using hn) ?_
            exact fin _ (by unfold dv; rw [if_neg hn])
end
end Fu

namespace Fu
open PySem L2
open PyProof.Rows hiding St
def isRat : D → Bool
  | .rat _ _ => true
  | _ => false
/-- a number's parts -/
def prt : D → Option (Int × Int)
  | .int n => some (n, 1)
  | .rat n m => some (n, m)
  | _ => none
def isNum (d : D) : Bool := (prt d).isSome
/-- isinstance(v, Ratio) -/
structure RatK (K : PySem.W.Frag) (mg : Str → Option Value) (C : Addr) : Prop where
  g : mg "Ratio" = some (.ref C)
  t : ∀ T ∈ ["NoneType", "bool", "int", "str", "list", "tuple", "dict"], PySem.W.kitOne K (.type T) (.ref C) = some false
section
variable {P : Program} {w : World} {K : PySem.W.Frag} {mg : Str → Option Value} {base : Heap} {C : Addr}
theorem kit_self {t : Value} : PySem.W.kitOne K t t = some true := by
  unfold PySem.W.kitOne
  rw [if_pos (by simp)]
theorem kit_rat (R : RatK K mg C) : ∀ d : D, PySem.W.kitOne K (tyD C d) (.ref C) = some (isRat d)
  | .non => R.t _ (by decide)
  | .bl _ => R.t _ (by decide)
  | .int _ => R.t _ (by decide)
  | .str _ => R.t _ (by decide)
  | .lst _ => R.t _ (by decide)
  | .tup _ => R.t _ (by decide)
  | .dic => R.t _ (by decide)
  | .rat _ _ => kit_self
theorem isNum_eq (d : D) : isNum d = (isRat d || isInt d) := by cases d <;> rfl
/-! ### is_number -/
def spIsNum (C : Addr) : Sp := fun vs H Q _ => ∃ (d : D) (v : V), vs = [v] ∧ At C H d v ∧ Q (.bl (isNum d)) H
theorem scIsNum : FnScope ["value"] ["value"] (defScope sIsNum) := ⟨rfl, rfl, rfl, by decide +kernel, rfl, by decide +kernel, by decide +kernel⟩
theorem ok_isNum {f f1 : Addr} {fd fd1 : FuncData} (F : Fun K "is_number" "is_number" sIsNum f fd) (B : Bt mg) (R : RatC K C) (R2 : RatK K mg C) (G1 : Def P w K mg base CX0 1 "is_integer" ["value"] (spIsInt C) f1 fd1) :
    FnOk P w K mg base CX0 2 f fd ["value"] (spIsNum C) := by
  refine F.ok scIsNum (fun vs H Q E h => ?_) (fun cdv A outer s H vs Q E hr h => ?_)
  · obtain ⟨d, v, rfl, _⟩ := h
    rfl
  · obtain ⟨d, v, rfl, a, k⟩ := h
    refine ⟨_, pss_one (ps_ret (pe_or (pe_callB call_isi (by rfl) B.isi (by decide +kernel) (pa_cons (pv 0) (pa_cons (pe_glob (v := .ref C) (by rfl) R2.g rfl) pa_nil)))
      (pe_one (pe_def G1 hr (pa_cons (pv 0) pa_nil))))), ?_⟩
    refine ⟨_, rfl, _, _, _, _, _, rfl, .own C, ty_at R.ci a, kit_rat R2 d, _, rfl, ?_⟩
    rw [isNum_eq] at k
    cases h : isRat d with
    | true =>
      rw [h] at k
      exact iteT k
    | false =>
      rw [h] at k
      exact iteF ⟨_, rfl, d, v, rfl, a, k⟩
/-! ### parts_of -/
theorem rf_eq (n m : Int) : rf n m = ([("own_top", V.int n), ("own_bottom", V.int m)] : List (Str × V)) := by
  show (if ("own_top" : Str) = "own_bottom" then [(("own_top" : Str), V.int m)] else (("own_top" : Str), V.int n) :: putF "own_bottom" (V.int m) []) = ([("own_top", V.int n), ("own_bottom", V.int m)] : List (Str × V))
  rw [if_neg (by decide +kernel)]
  rfl
theorem rf_top (n m : Int) : (rf n m).lookup ("own_top" : Str) = some (V.int n) := by
  unfold rf
  rw [lookup_putF, if_neg (by decide +kernel), lookup_putF, if_pos rfl]
theorem rf_bot (n m : Int) : (rf n m).lookup ("own_bottom" : Str) = some (V.int m) := by
  unfold rf
  rw [lookup_putF, if_pos rfl]
theorem rf_no (n m : Int) {x : Str} (h1 : ¬ x = "own_top") (h2 : ¬ x = "own_bottom") : (rf n m).lookup x = none := by
  unfold rf
  rw [lookup_putF, if_neg h2, lookup_putF, if_neg h1]
  rfl
def spParts (C : Addr) : Sp := fun vs H Q _ => ∃ (d : D) (v : V) (n m : Int), vs = [v] ∧ At C H d v ∧ prt d = some (n, m) ∧ ∀ p, H p = none → Q (.ref p) (upd H p (.tup [.int n, .int m]))
theorem scParts : FnScope ["number"] ["number"] (defScope sParts) := ⟨rfl, rfl, rfl, by decide +kernel, rfl, by decide +kernel, by decide +kernel⟩
theorem ok_parts {f : Addr} {fd : FuncData} (F : Fun K "parts_of" "parts_of" sParts f fd) (B : Bt mg) (R : RatC K C) (R2 : RatK K mg C) :
    FnOk P w K mg base CX0 1 f fd ["number"] (spParts C) := by
  refine F.ok scParts (fun vs H Q E h => ?_) (fun cdv A outer s H vs Q E hr h => ?_)
  · obtain ⟨d, v, n, m, rfl, _⟩ := h
    rfl
  · obtain ⟨d, v, n, m, rfl, a, hp, k⟩ := h
    refine ⟨_, pss_one (ps_ret (pe_ifExp (pt_val (pe_callB call_isi (by rfl) B.isi (by decide +kernel) (pa_cons (pv 0) (pa_cons (pe_glob (v := .ref C) (by rfl) R2.g rfl) pa_nil))))
      (pe_tup (pa_cons (pe_fld (pv 0) rfl) (pa_cons (pe_fld (pv 0) rfl) pa_nil))) (pe_tup (pa_cons (pv 0) (pa_cons pe_int pa_nil))))), ?_⟩
    refine ⟨_, rfl, _, _, _, _, _, rfl, .own C, ty_at R.ci a, kit_rat R2 d, _, rfl, ?_⟩
    cases d with
    | int i =>
      cases hp
      obtain rfl : v = .int n := a
      exact iteF ⟨_, rfl, (by show 2 ≤ sizeLine; decide), k⟩
    | rat i j =>
      cases hp
      obtain ⟨p, dx, rfl, hp⟩ := a
      exact iteT ⟨_, rfl, p, C, dx, _, _, rfl, hp, R.ci.cl, R.nT, rf_top _ _, _, rfl, p, C, dx, _, _, rfl, hp, R.ci.cl, R.nB, rf_bot _ _, (by show 2 ≤ sizeLine; decide), k⟩
    | _ => cases hp
/-! ### == -/
/-- what == says of a Ratio n/m and d -/
def eqR (n m : Int) (d : D) : Bool := match prt d with
  | some (i, j) => n == i && m == j
  | none => false
def spEqR (C : Addr) : Sp := fun vs H Q _ => ∃ (a dx : Addr) (n m : Int) (d : D) (v : V), vs = [.ref a, v] ∧ H a = some (.ins C dx (rf n m)) ∧ At C H d v ∧ ∀ H', Same H H' → Q (.bl (eqR n m d)) H'
theorem scEq : FnScope ["self", "other"] ["self", "other"] (defScope sEq) := ⟨rfl, rfl, rfl, by decide +kernel, rfl, by decide +kernel, by decide +kernel⟩
theorem Same.new {H : Hp} {p : Addr} {o : HO} (h : H p = none) : Same H (upd H p o) := fun b u e => by
  rw [upd_ne (ne_of_none e h)]
  exact e
theorem ok_eq {f f1 f2 : Addr} {fd fd1 fd2 : FuncData} (F : Fun K "__eq__" "Ratio.__eq__" sEq f fd) (R : RatC K C) (G1 : Def P w K mg base CX0 2 "is_number" ["value"] (spIsNum C) f1 fd1) (G2 : Def P w K mg base CX0 1 "parts_of" ["number"] (spParts C) f2 fd2) :
    FnOk P w K mg base CX0 3 f fd ["self", "other"] (spEqR C) := by
  refine F.ok scEq (fun vs H Q E h => ?_) (fun cdv A outer s H vs Q E hr h => ?_)
  · obtain ⟨a, dx, n, m, d, v, rfl, _⟩ := h
    rfl
  · obtain ⟨a, dx, n, m, d, v, rfl, ha, at1, k⟩ := h
    refine ⟨_, pss_cons (ps_if (pt_not (pt_val (pe_def G1 hr (pa_cons (pv 1) pa_nil)))) (pss_one (ps_ret pe_bl)) pss_nil)
      (pss_one (ps_ret (pe_cmpR (op_eqD hr.units) (pe_tup (pa_cons (pe_fld (pv 0) rfl) (pa_cons (pe_fld (pv 0) rfl) pa_nil))) (pe_def G2 (hr.mono (by decide)) (pa_cons (pv 1) pa_nil)) (nomark _)))), ?_⟩
    refine ⟨_, rfl, d, v, rfl, at1, _, rfl, ?_⟩
    cases hp : prt d with
    | none =>
      refine if_true_of (by unfold isNum; rw [hp]; rfl) ?_
      have q := k H (Same.refl H)
      unfold eqR at q
      rw [hp] at q
      exact q
    | some ij =>
      obtain ⟨i, j⟩ := ij
      refine if_false_of (by unfold isNum; rw [hp]; rfl) ?_
      refine ⟨_, rfl, a, C, dx, _, _, rfl, ha, R.ci.cl, R.nT, rf_top _ _, _, rfl, a, C, dx, _, _, rfl, ha, R.ci.cl, R.nB, rf_bot _ _, (by show 2 ≤ sizeLine; decide), fun p np => ?_⟩
      refine ⟨_, rfl, d, v, i, j, rfl, at1.ex (Same.new np), hp, fun q nq => ?_⟩
      have hpq : (upd (upd H p (.tup [.int n, .int m])) q (.tup [.int i, .int j])) p = some (.tup [.int n, .int m]) := by
        rw [upd_ne (ne_of_none upd_same nq)]
        exact upd_same
      refine ⟨.tuple [.int n, .int m], .tuple [.int i, .int j], .tup (SqT.of hpq) (.cons (.int _) (.cons (.int _) .nil)), .tup (SqT.of upd_same) (.cons (.int _) (.cons (.int _) .nil)), rfl, rfl, ?_⟩
      have e : PyData.eqv (.tuple [.int n, .int m]) (.tuple [.int i, .int j]) = eqR n m d := by
        unfold eqR
        rw [hp]
        simp [PyData.eqv, PyData.eqvAll]
      rw [e]
      exact k _ ((Same.new np).trans (Same.new nq))
/-! ### a new Ratio -/
/-- the class with its __init__, to be called -/
structure RatM (P : Program) (w : World) (K : PySem.W.Frag) (mg : Str → Option Value) (base : Heap) (C CI f : Addr) (fd : FuncData) (ds : List Value) : Prop where
  m : Mk K C f
  ok : FnOk P w K mg base (L2.CX P w) 3 f fd ["self", "top", "bottom"] (spInit C CI)
  b2 : Binds K fd ["self", "top", "bottom"] []
  b1 : Binds K fd ["self", "top", "bottom"] ds
  d1 : Vals [.int 1] ds
/-- a promise of a new Ratio n / m behind the heap H -/
def New (C : Addr) (H : Hp) (n m : Int) (Q : VK) : Prop := ∀ (p dx : Addr) (H' : Hp), Same H H' → H p = none → H' p = some (.ins C dx (rf (rN n m) (rD n m))) → Q (.ref p) H'
theorem made_same {H : Hp} {x dx C : Addr} {fs : List (Str × V)} (nx : H x = none) (nd : H dx = none) (ne : dx ≠ x) : Same H (upd (upd (upd H dx (.own x)) x (.ins C dx [])) x (.ins C dx fs)) := fun b o e => by
  rw [upd_ne (ne_of_none e nx), upd_ne (ne_of_none e nx), upd_ne (ne_of_none e nd)]
  exact e
/-- Ratio(n, m) of ints, m not 0 -/
theorem init_int {CI x dx : Addr} {H : Hp} {n m : Int} {Q : VK} {E : XK} (nx : H x = none) (nd : H dx = none) (ne : dx ≠ x) (hm : m ≠ 0) (hl : m.natAbs.log2 < 9000) (k : New C H n m Q) :
    spInit C CI [.ref x, .int n, .int m] (upd (upd H dx (.own x)) x (.ins C dx [])) (fun v H2 => v = .non ∧ Q (.ref x) H2) E := by
  refine ⟨x, dx, _, _, .int n, .int m, rfl, upd_same, rfl, rfl, fun h => Bool.noConfusion h, fun _ h => ?_, fun n' m' e1 e2 _ => ?_⟩
  · rcases h with h | h
    · exact Bool.noConfusion h
    · cases h
      exact absurd rfl hm
  · cases e1
    cases e2
    exact ⟨hl, rfl, k x dx _ (made_same nx nd ne) nx upd_same⟩
theorem init_intR {CI x dx : Addr} {H : Hp} {n m : Int} {R : VK} {E : XK} (nx : H x = none) (nd : H dx = none) (ne : dx ≠ x) (hm : m ≠ 0) (hl : m.natAbs.log2 < 9000) (k : ∀ H', Same H H' → H' x = some (.ins C dx (rf (rN n m) (rD n m))) → R .non H') :
    spInit C CI [.ref x, .int n, .int m] (upd (upd H dx (.own x)) x (.ins C dx [])) R E := by
  refine ⟨x, dx, _, _, .int n, .int m, rfl, upd_same, rfl, rfl, fun h => Bool.noConfusion h, fun _ h => ?_, fun n' m' e1 e2 _ => ?_⟩
  · rcases h with h | h
    · exact Bool.noConfusion h
    · cases h
      exact absurd rfl hm
  · cases e1
    cases e2
    exact ⟨hl, k _ (made_same nx nd ne) upd_same⟩
/-! ### over -/
def isZero : D → Bool
  | .int i => i == 0
  | .rat i j => i == 0 && j == 1
  | _ => false
def badO (d : D) : Bool := !isNum d || isZero d
def small (n : Int) : Prop := n.natAbs.log2 < 4000
theorem log2_mul {a b : Nat} : (a * b).log2 ≤ a.log2 + b.log2 + 1 := by
  by_cases ha : a = 0
  · subst ha
    simp
  by_cases hb : b = 0
  · subst hb
    simp
  have h1 : a < 2 ^ (a.log2 + 1) := Nat.lt_log2_self
  have h2 : b < 2 ^ (b.log2 + 1) := Nat.lt_log2_self
  have h3 : a * b < 2 ^ (a.log2 + 1 + (b.log2 + 1)) := by
    rw [Nat.pow_add]
    exact Nat.mul_lt_mul'' h1 h2
  have h4 := (Nat.log2_lt (Nat.mul_ne_zero ha hb)).mpr h3
  omega
theorem small_mul {i j : Int} (h1 : small i) (h2 : small j) : CMulW i j := by
  unfold small at h1 h2
  unfold CMulW
  omega
theorem small_log {i j : Int} (h1 : small i) (h2 : small j) : (i * j).natAbs.log2 < 9000 := by
  unfold small at h1 h2
  rw [Int.natAbs_mul]
  have := @log2_mul i.natAbs j.natAbs
  omega
def spOver (C CI : Addr) : Sp := fun vs H Q E => ∃ (a dx : Addr) (n m : Int) (d : D) (v : V), vs = [.ref a, v] ∧ H a = some (.ins C dx (rf n m)) ∧ At C H d v ∧
  (badO d = true → ∀ (H' : Hp) (e : Addr), Same H H' → H' e = some (.xd [("value", v)]) → E (.ref CI) (some e) H') ∧
  (badO d = false → ∀ i j, prt d = some (i, j) → m * i ≠ 0 ∧ small n ∧ small m ∧ small i ∧ small j ∧ New C H (n * j) (m * i) Q)
theorem scOver : FnScope ["self", "other", "top", "bottom"] ["self", "other"] (defScope sOver) := ⟨rfl, rfl, rfl, by decide +kernel, rfl, by decide +kernel, by decide +kernel⟩
theorem nf_int : PySem.W.notFirst K C (.type "int") = true := by
  have e : PySem.W.subIn K (.type "int") (.ref C) = some false := by with_unfolding_all rfl
  unfold PySem.W.notFirst
  rw [e]
  simp
theorem zero_eq {H : Hp} {d : D} {v : V} {Q : VK} (a : At C H d v) (hn : isNum d = true) (k : ∀ H1, Same H H1 → Q (.bl (isZero d)) H1) : rEq v (.int 0) H Q ∨ rOwn K C (spEqR C) E0 v (.int 0) H Q := by
  cases d with
  | int i =>
    obtain rfl : v = .int i := a
    refine .inl ⟨rfl, ?_⟩
    rw [dec_int]
    exact k H (Same.refl H)
  | rat i j =>
    obtain ⟨p, dx, rfl, hp⟩ := a
    exact .inr ⟨p, dx, _, .type "int", rfl, hp, .base (.int 0), nf_int, p, dx, i, j, .int 0, .int 0, rfl, hp, rfl, fun H' s => k H' s⟩
  | _ => cases hn
theorem ok_over {f f1 f2 f3 fe CI fX : Addr} {fd fd1 fd2 fd3 fde fdX : FuncData} {ds : List Value} (F : Fun K "over" "Ratio.over" sOver f fd) (R : RatC K C) (R2 : RatK K mg C) (I : IN P w K mg base CI fX fdX)
    (G1 : Def P w K mg base CX0 2 "is_number" ["value"] (spIsNum C) f1 fd1) (G2 : Def P w K mg base CX0 1 "parts_of" ["number"] (spParts C) f2 fd2) (M : RatM P w K mg base C CI f3 fd3 ds)
    (Ge : FnOk P w K mg base CX0 3 fe fde ["self", "other"] (spEqR C)) (be : Binds K fde ["self", "other"] []) (he : PySem.W.findIn K (.ref C) "__eq__" = some (some (.ref fe))) (hfe : PySem.W.isFn K (.ref fe) = true) :
    FnOk P w K mg base (L2.CX P w) 5 f fd ["self", "other"] (spOver C CI) := by
  refine F.okX scOver (fun vs H Q E h => ?_) (fun cdv A outer s H vs Q E hr h => ?_)
  · obtain ⟨a, dx, n, m, d, v, rfl, _⟩ := h
    rfl
  · obtain ⟨a, dx, n, m, d, v, rfl, ha, at1, kE, kQ⟩ := h
    refine ⟨_, pss_cons (ps_if (PW.pt (pw_or (pt_not (pt_val (pe_def G1 (hr.mono (by decide)) (pa_cons (pv 1) pa_nil)))) (pw_or1 (pt_cmpR (OpR.or op_eq (op_own (C := C) Ge (hr.mono (by decide)) he hfe be pass0 fun _ _ => rfl)) (pv 1) pe_int (nomark _)))))
        (pss_one (ps_raiseX rfl I.e I.ok (hr.mono (by decide)) I.b pass0 (takes_of rfl rfl rfl rfl) (pv 1) (tVar_mono 1))) pss_nil)
      (pss_cons (ps_asg (pe_def G2 (hr.mono (by decide)) (pa_cons (pv 1) pa_nil)) (pg_tup rfl (pgs_cons (pg_name (i := 2) scOver.nd rfl (.inl rfl)) (pgs_cons (pg_name (i := 3) scOver.nd rfl (.inl rfl)) pgs_nil))))
      (pss_one (ps_ret (pe_make M.m M.ok hr rfl R2.g M.b2 .nil passL (pa_cons (pe_op op_mulW (pe_fld (pv 0) rfl) (pv 3)) (pa_cons (pe_op op_mulW (pe_fld (pv 0) rfl) (pv 2)) pa_nil)))))), ?_⟩
    refine ⟨_, rfl, d, v, rfl, at1, _, rfl, ?_⟩
    cases hn : isNum d with
    | false =>
      exact if_true_of rfl (iteT ⟨_, rfl, _, rfl, fun e he => kE (by unfold badO; rw [hn]; rfl) _ e (Same.new he) upd_same⟩)
    | true =>
      refine if_false_of rfl ⟨_, rfl, zero_eq at1 hn fun H1 s1 => ⟨_, rfl, ?_⟩⟩
      cases hz : isZero d with
      | true => exact iteT ⟨_, rfl, _, rfl, fun e he => kE (by unfold badO; rw [hz]; simp) _ e (s1.trans (Same.new he)) upd_same⟩
      | false =>
        obtain ⟨⟨i, j⟩, hp⟩ := Option.isSome_iff_exists.mp (show (prt d).isSome = true from hn)
        obtain ⟨hmi, sn, sm, si, sj, k⟩ := kQ (by unfold badO; rw [hn, hz]; rfl) i j hp
        have ha1 := s1 _ _ ha
        refine iteF ⟨_, rfl, d, v, i, j, rfl, at1.ex s1, hp, fun q nq => ?_⟩
        have ha2 := Same.new (o := .tup [.int i, .int j]) nq _ _ ha1
        refine ⟨q, _, rfl, SqT.of upd_same, rfl, _, _, rfl, _, _, rfl, rfl, ?_⟩
        refine ⟨_, rfl, a, C, dx, _, _, rfl, ha2, R.ci.cl, R.nT, rf_top _ _, _, rfl, _, _, rfl, rfl, small_mul sn sj, _, rfl, a, C, dx, _, _, rfl, ha2, R.ci.cl, R.nB, rf_bot _ _, _, rfl, _, _, rfl, rfl, small_mul sm si, fun x dx' nx nd ne => ?_⟩
        have s2 := s1.trans (Same.new (o := .tup [.int i, .int j]) nq)
        exact init_int nx nd ne hmi (small_log sm si) fun p dx2 H' s3 np hp => k p dx2 H' (s2.trans s3) (s2.free np) hp
end
end Fu

namespace Fu
open PySem L2
open PyProof.Rows hiding St
open L2H (RoomH roomH_of)
section
variable {P : Program} {w : World} {K : PySem.W.Frag} {mg : Str → Option Value} {base : Heap} {C : Addr}
/-! ### repr -/
theorem int_len {i : Int} (h : i.natAbs.log2 < 1920) : (Str.ofString (toString i)).length ≤ 1921 := by
  rw [PySem.ofString_length]
  exact int_text_length_le (k := 1920) (by decide) h
theorem scRepr : FnScope ["self"] ["self"] (defScope sRepr) := ⟨rfl, rfl, rfl, by decide +kernel, rfl, by decide +kernel, by decide +kernel⟩
theorem ok_repr {f : Addr} {fd : FuncData} (F : Fun K "__repr__" "Ratio.__repr__" sRepr f fd) (gs : mg "str" = none) (R : RatC K C) : FnA P w K mg base 1 f fd ["self"] (spRepr C) := by
  refine Fun.okA F scRepr (fun vs H Q E h => ?_) (fun cdv A outer s H vs Q E hr h => ?_)
  · obtain ⟨a, dx, n, m, rfl, _⟩ := h
    rfl
  · obtain ⟨a, dx, n, m, rfl, ha, hn, hm, k⟩ := h
    refine ⟨_, pss_cons (ps_if (pt_cmpR op_eq (pe_fld (pv 0) rfl) pe_int (nomark _)) (pss_one (ps_ret (pe_callTy call_str_int (by rfl) gs (by decide +kernel) (pa_cons (pe_fld (pv 0) rfl) pa_nil)))) pss_nil)
      (pss_one (ps_ret (pe_joined (.cons (pe_fmt (pe_fld (pv 0) rfl)) (.cons pe_str (.cons (pe_fmt (pe_fld (pv 0) rfl)) .nil)))))), ?_⟩
    refine ⟨_, rfl, a, C, dx, _, _, rfl, ha, R.ci.cl, R.nB, rf_bot _ _, rfl, _, rfl, ?_⟩
    by_cases e : m = 1
    · subst e
      refine if_true_of (by simp) ⟨_, rfl, a, C, dx, _, _, rfl, ha, R.ci.cl, R.nT, rf_top _ _, _, rfl, by omega, ?_⟩
      unfold rTxt at k
      rw [if_pos rfl] at k
      exact k
    · refine if_false_of (by simpa using e) ⟨_, rfl, a, C, dx, _, _, rfl, ha, R.ci.cl, R.nT, rf_top _ _, .inr ⟨_, rfl, by omega, ?_⟩⟩
      have l1 := int_len (i := n) (by omega)
      have l2 := int_len (i := m) (by omega)
      have lS : (Str.ofString "/").length = 1 := by decide +kernel
      refine ⟨_, rfl, by rw [Str.empty_append, sizeLine_eq]; omega, _, rfl, by rw [Str.empty_append, Str.length_append, lS, sizeLine_eq]; omega, ?_⟩
      refine ⟨_, rfl, a, C, dx, _, _, rfl, ha, R.ci.cl, R.nB, rf_bot _ _, .inr ⟨_, rfl, by omega, _, rfl, by rw [Str.empty_append, Str.length_append, Str.length_append, lS, sizeLine_eq]; omega, ?_⟩⟩
      unfold rTxt at k
      rw [if_neg e] at k
      rw [Str.empty_append]
      exact k
end
end Fu

/-! Ratio: lowest terms, and its arithmetic. -/
namespace Fu
open PySem L2
open PyProof.Rows hiding St
open L2H (RoomH roomH_of)
/-! ### lowest terms -/
def Red (n m : Int) : Prop := 0 < m ∧ Int.gcd n m = 1
theorem dv_natAbs (n m : Int) : (dv n m).natAbs = Int.gcd n m := by
  unfold dv
  split <;> simp
theorem dv_dvd_l (n m : Int) : dv n m ∣ n := by
  rw [← Int.natAbs_dvd, dv_natAbs]
  exact Int.gcd_dvd_left ..
theorem dv_dvd_r (n m : Int) : dv n m ∣ m := by
  rw [← Int.natAbs_dvd, dv_natAbs]
  exact Int.gcd_dvd_right ..
theorem fdiv_of {a b : Int} (h : b ≠ 0) : (b * a).fdiv b = a := by
  rw [Int.mul_comm]
  exact Int.mul_fdiv_cancel a h
theorem red_ex {n m : Int} (h : m ≠ 0) : ∃ a b, n = dv n m * a ∧ m = dv n m * b ∧ rN n m = a ∧ rD n m = b ∧ Red a b := by
  have hd := dv_ne (n := n) h
  obtain ⟨a, ha⟩ := dv_dvd_l n m
  obtain ⟨b, hb⟩ := dv_dvd_r n m
  refine ⟨a, b, ha, hb, ?_, ?_, ?_, ?_⟩
  · show n.fdiv (dv n m) = a
    have := fdiv_of (a := a) hd
    rw [← ha] at this
    exact this
  · show m.fdiv (dv n m) = b
    have := fdiv_of (a := b) hd
    rw [← hb] at this
    exact this
  · have hg : (0 : Int) ≤ (Int.gcd n m : Int) := Int.natCast_nonneg _
    have hb0 : b ≠ 0 := fun z => by rw [z, Int.mul_zero] at hb; exact h hb
    by_cases hm : m < 0
    · have e : dv n m = -(Int.gcd n m : Int) := if_pos hm
      rcases Int.lt_trichotomy b 0 with q | q | q
      · have : 0 ≤ dv n m * b := Int.mul_nonneg_of_nonpos_of_nonpos (by rw [e]; omega) (by omega)
        omega
      · exact absurd q hb0
      · exact q
    · have e : dv n m = (Int.gcd n m : Int) := if_neg hm
      rcases Int.lt_trichotomy b 0 with q | q | q
      · have : dv n m * b ≤ 0 := Int.mul_nonpos_of_nonneg_of_nonpos (by rw [e]; exact hg) (by omega)
        omega
      · exact absurd q hb0
      · exact q
  · have e1 : Int.gcd n m = (dv n m).natAbs * Int.gcd a b := by
      have e2 : Int.gcd n m = Int.gcd (dv n m * a) (dv n m * b) := by rw [← ha, ← hb]
      rw [e2, Int.gcd_mul_left]
    rw [dv_natAbs] at e1
    have hp : 0 < Int.gcd n m := by
      rw [← dv_natAbs]
      omega
    have e3 : Int.gcd n m * 1 = Int.gcd n m * Int.gcd a b := by rw [Nat.mul_one]; exact e1
    exact (Nat.eq_of_mul_eq_mul_left hp e3).symm
theorem red_rn {n m : Int} (h : m ≠ 0) : Red (rN n m) (rD n m) := by
  obtain ⟨a, b, _, _, e1, e2, r⟩ := red_ex (n := n) h
  rw [e1, e2]
  exact r
theorem cross_rn {n m : Int} (h : m ≠ 0) : rN n m * m = n * rD n m := by
  obtain ⟨a, b, h1, h2, e1, e2, r⟩ := red_ex (n := n) h
  rw [e1, e2]
  generalize dv n m = d at h1 h2
  rw [h1, h2]
  rw [Int.mul_comm d a, Int.mul_assoc]
theorem abs_rn {n m : Int} (h : m ≠ 0) : (rN n m).natAbs ≤ n.natAbs ∧ (rD n m).natAbs ≤ m.natAbs := by
  have hd := dv_ne (n := n) h
  obtain ⟨a, b, h1, h2, e1, e2, r⟩ := red_ex (n := n) h
  rw [e1, e2]
  generalize dv n m = d at h1 h2 hd
  have hp : 1 ≤ d.natAbs := by omega
  rw [h1, h2, Int.natAbs_mul, Int.natAbs_mul]
  exact ⟨Nat.le_mul_of_pos_left _ hp, Nat.le_mul_of_pos_left _ hp⟩
theorem dvd_cop {a b d : Int} (h : Int.gcd a b = 1) (q : b ∣ a * d) : b ∣ d := by
  have q' : b.natAbs ∣ a.natAbs * d.natAbs := by
    rw [← Int.natAbs_mul]
    exact Int.natAbs_dvd_natAbs.mpr q
  have c : Nat.Coprime b.natAbs a.natAbs := by
    rw [Nat.coprime_comm]
    exact h
  exact Int.natAbs_dvd_natAbs.mp (c.dvd_of_dvd_mul_left q')
/-- lowest terms are one -/
theorem red_one {a b c d : Int} (h : Red a b) (h' : Red c d) (e : a * d = c * b) : a = c ∧ b = d := by
  have d1 : b ∣ d := by
    have q : b ∣ a * d := ⟨c, by rw [e, Int.mul_comm]⟩
    exact dvd_cop h.2 q
  have d2 : d ∣ b := by
    have q : d ∣ c * b := ⟨a, by rw [← e, Int.mul_comm]⟩
    exact dvd_cop h'.2 q
  have hb := h.1
  have hd := h'.1
  have e2 : b = d := Int.le_antisymm (Int.le_of_dvd hd d1) (Int.le_of_dvd hb d2)
  refine ⟨?_, e2⟩
  rw [e2] at e
  exact Int.eq_of_mul_eq_mul_right (by omega) e
theorem red_self {n m : Int} (h : Red n m) : rN n m = n ∧ rD n m = m := by
  have hm : m ≠ 0 := by have := h.1; omega
  exact red_one (red_rn hm) h (cross_rn hm)
theorem red_neg {n m : Int} (h : Red n m) : Red (-n) m := ⟨h.1, by rw [Int.neg_gcd]; exact h.2⟩
theorem red_abs {n m : Int} (h : Red n m) : Red (if n < 0 then -n else n) m := by
  split
  · exact red_neg h
  · exact h
theorem red_int (n : Int) : Red n 1 := ⟨by decide, by simp⟩
section
variable {P : Program} {w : World} {K : PySem.W.Frag} {mg : Str → Option Value} {base : Heap} {C : Addr}
/-- a new Ratio that is A / B -/
def NewR (C : Addr) (H : Hp) (A B : Int) (Q : VK) : Prop := ∀ (p dx : Addr) (H' : Hp) (n m : Int), Same H H' → H p = none → H' p = some (.ins C dx (rf n m)) → Red n m → n * B = A * m → n.natAbs ≤ A.natAbs → m.natAbs ≤ B.natAbs → Q (.ref p) H'
theorem NewR.new {H : Hp} {A B : Int} {Q : VK} (hB : B ≠ 0) (k : NewR C H A B Q) : New C H A B Q := fun p dx H' s np hp => k p dx H' _ _ s np hp (red_rn hB) (cross_rn hB) (abs_rn hB).1 (abs_rn hB).2
/-- the methods with another number -/
def spAr (C : Addr) (F : Int → Int → Int → Int → Int) : Sp := fun vs H Q _ => ∃ (a dx : Addr) (n m : Int) (d : D) (v : V) (i j : Int), vs = [.ref a, v] ∧ H a = some (.ins C dx (rf n m)) ∧ At C H d v ∧ prt d = some (i, j) ∧ Red n m ∧ 0 < j ∧
  small n ∧ small m ∧ small i ∧ small j ∧ NewR C H (F n m i j) (m * j) Q
def spCm (C : Addr) (R : Int → Int → Bool) : Sp := fun vs H Q _ => ∃ (a dx : Addr) (n m : Int) (d : D) (v : V) (i j : Int), vs = [.ref a, v] ∧ H a = some (.ins C dx (rf n m)) ∧ At C H d v ∧ prt d = some (i, j) ∧
  small n ∧ small m ∧ small i ∧ small j ∧ ∀ H', Same H H' → Q (.bl (R (n * j) (i * m))) H'
/-- a new Ratio with these parts -/
def NewE (C : Addr) (H : Hp) (n m : Int) (Q : VK) : Prop := ∀ (p dx : Addr) (H' : Hp), Same H H' → H p = none → H' p = some (.ins C dx (rf n m)) → Q (.ref p) H'
def spUn (C : Addr) (F : Int → Int) : Sp := fun vs H Q _ => ∃ (a dx : Addr) (n m : Int), vs = [.ref a] ∧ H a = some (.ins C dx (rf n m)) ∧ Red n m ∧ small m ∧ NewE C H (F n) m Q
theorem isNum_of {d : D} {i j : Int} (h : prt d = some (i, j)) : isNum d = true := by
  unfold isNum
  rw [h]
  rfl
theorem small9 {m : Int} (h : small m) : m.natAbs.log2 < 9000 := by
  unfold small at h
  omega
theorem mul_ne {a b : Int} (h : 0 < a) (h' : 0 < b) : a * b ≠ 0 := by
  have := Int.mul_pos h h'
  omega
theorem sc_add : FnScope ["self", "other", "top", "bottom"] ["self", "other"] (defScope sRatio_add) := ⟨rfl, rfl, rfl, by decide +kernel, rfl, by decide +kernel, by decide +kernel⟩
def F_add (n m i j : Int) : Int := n * j + i * m
theorem ok_add {f f1 f2 f3 CI : Addr} {fd fd1 fd2 fd3 : FuncData} {ds : List Value} (F : Fun K "__add__" "Ratio.__add__" sRatio_add f fd) (R : RatC K C) (R2 : RatK K mg C) (G1 : Def P w K mg base CX0 2 "is_number" ["value"] (spIsNum C) f1 fd1)
    (G2 : Def P w K mg base CX0 1 "parts_of" ["number"] (spParts C) f2 fd2) (M : RatM P w K mg base C CI f3 fd3 ds) : FnOk P w K mg base CX0 5 f fd ["self", "other"] (spAr C F_add) := by
  refine F.ok sc_add (fun vs H Q E h => ?_) (fun cdv A outer s H vs Q E hr h => ?_)
  · obtain ⟨a, dx, n, m, d, v, i, j, rfl, _⟩ := h
    rfl
  · obtain ⟨a, dx, n, m, d, v, i, j, rfl, ha, at1, hp, rd, j0, sn, sm, si, sj, k⟩ := h
    refine ⟨_, pss_cons (ps_if (pt_not (pt_val (pe_def G1 (hr.mono (by decide)) (pa_cons (pv 1) pa_nil)))) pss_never pss_nil)
      (pss_cons (ps_asg (pe_def G2 (hr.mono (by decide)) (pa_cons (pv 1) pa_nil)) (pg_tup rfl (pgs_cons (pg_name (i := 2) sc_add.nd rfl (.inl rfl)) (pgs_cons (pg_name (i := 3) sc_add.nd rfl (.inl rfl)) pgs_nil))))
      (pss_one (ps_ret (pe_make M.m M.ok hr rfl R2.g M.b2 .nil passL (pa_cons (pe_op op_add (pe_op op_mulW (pe_fld (pv 0) rfl) (pv 3)) (pe_op op_mulW (pv 2) (pe_fld (pv 0) rfl))) (pa_cons (pe_op op_mulW (pe_fld (pv 0) rfl) (pv 3)) pa_nil)))))), ?_⟩
    refine ⟨_, rfl, d, v, rfl, at1, _, rfl, ?_⟩
    rw [isNum_of hp]
    refine iteF ⟨_, rfl, d, v, i, j, rfl, at1, hp, fun q nq => ?_⟩
    have ha2 := Same.new (o := .tup [.int i, .int j]) nq _ _ ha
    refine ⟨q, _, rfl, SqT.of upd_same, rfl, _, _, rfl, _, _, rfl, rfl, ?_⟩
    refine ⟨_, rfl, a, C, dx, _, _, rfl, ha2, R.ci.cl, R.nT, rf_top _ _, _, rfl, _, _, rfl, rfl, small_mul sn sj, _, rfl, _, rfl, a, C, dx, _, _, rfl, ha2, R.ci.cl, R.nB, rf_bot _ _, _, _, rfl, rfl, small_mul si sm, _, _, rfl, rfl, _, rfl, a, C, dx, _, _, rfl, ha2, R.ci.cl, R.nB, rf_bot _ _, _, rfl, _, _, rfl, rfl, small_mul sm sj, fun x dx' nx nd ne => ?_⟩
    have s2 := Same.new (o := .tup [.int i, .int j]) nq
    have hmj := mul_ne rd.1 j0
    have k' := k.new hmj
    exact init_int nx nd ne hmj (small_log sm sj) fun p dx2 H' s3 np hp => k' p dx2 H' (s2.trans s3) (s2.free np) hp
theorem sc_sub : FnScope ["self", "other", "top", "bottom"] ["self", "other"] (defScope sRatio_sub) := ⟨rfl, rfl, rfl, by decide +kernel, rfl, by decide +kernel, by decide +kernel⟩
def F_sub (n m i j : Int) : Int := n * j - i * m
theorem ok_sub {f f1 f2 f3 CI : Addr} {fd fd1 fd2 fd3 : FuncData} {ds : List Value} (F : Fun K "__sub__" "Ratio.__sub__" sRatio_sub f fd) (R : RatC K C) (R2 : RatK K mg C) (G1 : Def P w K mg base CX0 2 "is_number" ["value"] (spIsNum C) f1 fd1)
    (G2 : Def P w K mg base CX0 1 "parts_of" ["number"] (spParts C) f2 fd2) (M : RatM P w K mg base C CI f3 fd3 ds) : FnOk P w K mg base CX0 5 f fd ["self", "other"] (spAr C F_sub) := by
  refine F.ok sc_sub (fun vs H Q E h => ?_) (fun cdv A outer s H vs Q E hr h => ?_)
  · obtain ⟨a, dx, n, m, d, v, i, j, rfl, _⟩ := h
    rfl
  · obtain ⟨a, dx, n, m, d, v, i, j, rfl, ha, at1, hp, rd, j0, sn, sm, si, sj, k⟩ := h
    refine ⟨_, pss_cons (ps_if (pt_not (pt_val (pe_def G1 (hr.mono (by decide)) (pa_cons (pv 1) pa_nil)))) pss_never pss_nil)
      (pss_cons (ps_asg (pe_def G2 (hr.mono (by decide)) (pa_cons (pv 1) pa_nil)) (pg_tup rfl (pgs_cons (pg_name (i := 2) sc_sub.nd rfl (.inl rfl)) (pgs_cons (pg_name (i := 3) sc_sub.nd rfl (.inl rfl)) pgs_nil))))
      (pss_one (ps_ret (pe_make M.m M.ok hr rfl R2.g M.b2 .nil passL (pa_cons (pe_op op_sub (pe_op op_mulW (pe_fld (pv 0) rfl) (pv 3)) (pe_op op_mulW (pv 2) (pe_fld (pv 0) rfl))) (pa_cons (pe_op op_mulW (pe_fld (pv 0) rfl) (pv 3)) pa_nil)))))), ?_⟩
    refine ⟨_, rfl, d, v, rfl, at1, _, rfl, ?_⟩
    rw [isNum_of hp]
    refine iteF ⟨_, rfl, d, v, i, j, rfl, at1, hp, fun q nq => ?_⟩
    have ha2 := Same.new (o := .tup [.int i, .int j]) nq _ _ ha
    refine ⟨q, _, rfl, SqT.of upd_same, rfl, _, _, rfl, _, _, rfl, rfl, ?_⟩
    refine ⟨_, rfl, a, C, dx, _, _, rfl, ha2, R.ci.cl, R.nT, rf_top _ _, _, rfl, _, _, rfl, rfl, small_mul sn sj, _, rfl, _, rfl, a, C, dx, _, _, rfl, ha2, R.ci.cl, R.nB, rf_bot _ _, _, _, rfl, rfl, small_mul si sm, _, _, rfl, rfl, _, rfl, a, C, dx, _, _, rfl, ha2, R.ci.cl, R.nB, rf_bot _ _, _, rfl, _, _, rfl, rfl, small_mul sm sj, fun x dx' nx nd ne => ?_⟩
    have s2 := Same.new (o := .tup [.int i, .int j]) nq
    have hmj := mul_ne rd.1 j0
    have k' := k.new hmj
    exact init_int nx nd ne hmj (small_log sm sj) fun p dx2 H' s3 np hp => k' p dx2 H' (s2.trans s3) (s2.free np) hp
theorem sc_mul : FnScope ["self", "other", "top", "bottom"] ["self", "other"] (defScope sRatio_mul) := ⟨rfl, rfl, rfl, by decide +kernel, rfl, by decide +kernel, by decide +kernel⟩
def F_mul (n m i j : Int) : Int := n * i
theorem ok_mul {f f1 f2 f3 CI : Addr} {fd fd1 fd2 fd3 : FuncData} {ds : List Value} (F : Fun K "__mul__" "Ratio.__mul__" sRatio_mul f fd) (R : RatC K C) (R2 : RatK K mg C) (G1 : Def P w K mg base CX0 2 "is_number" ["value"] (spIsNum C) f1 fd1)
    (G2 : Def P w K mg base CX0 1 "parts_of" ["number"] (spParts C) f2 fd2) (M : RatM P w K mg base C CI f3 fd3 ds) : FnOk P w K mg base CX0 5 f fd ["self", "other"] (spAr C F_mul) := by
  refine F.ok sc_mul (fun vs H Q E h => ?_) (fun cdv A outer s H vs Q E hr h => ?_)
  · obtain ⟨a, dx, n, m, d, v, i, j, rfl, _⟩ := h
    rfl
  · obtain ⟨a, dx, n, m, d, v, i, j, rfl, ha, at1, hp, rd, j0, sn, sm, si, sj, k⟩ := h
    refine ⟨_, pss_cons (ps_if (pt_not (pt_val (pe_def G1 (hr.mono (by decide)) (pa_cons (pv 1) pa_nil)))) pss_never pss_nil)
      (pss_cons (ps_asg (pe_def G2 (hr.mono (by decide)) (pa_cons (pv 1) pa_nil)) (pg_tup rfl (pgs_cons (pg_name (i := 2) sc_mul.nd rfl (.inl rfl)) (pgs_cons (pg_name (i := 3) sc_mul.nd rfl (.inl rfl)) pgs_nil))))
      (pss_one (ps_ret (pe_make M.m M.ok hr rfl R2.g M.b2 .nil passL (pa_cons (pe_op op_mulW (pe_fld (pv 0) rfl) (pv 2)) (pa_cons (pe_op op_mulW (pe_fld (pv 0) rfl) (pv 3)) pa_nil)))))), ?_⟩
    refine ⟨_, rfl, d, v, rfl, at1, _, rfl, ?_⟩
    rw [isNum_of hp]
    refine iteF ⟨_, rfl, d, v, i, j, rfl, at1, hp, fun q nq => ?_⟩
    have ha2 := Same.new (o := .tup [.int i, .int j]) nq _ _ ha
    refine ⟨q, _, rfl, SqT.of upd_same, rfl, _, _, rfl, _, _, rfl, rfl, ?_⟩
    refine ⟨_, rfl, a, C, dx, _, _, rfl, ha2, R.ci.cl, R.nT, rf_top _ _, _, rfl, _, _, rfl, rfl, small_mul sn si, _, rfl, a, C, dx, _, _, rfl, ha2, R.ci.cl, R.nB, rf_bot _ _, _, rfl, _, _, rfl, rfl, small_mul sm sj, fun x dx' nx nd ne => ?_⟩
    have s2 := Same.new (o := .tup [.int i, .int j]) nq
    have hmj := mul_ne rd.1 j0
    have k' := k.new hmj
    exact init_int nx nd ne hmj (small_log sm sj) fun p dx2 H' s3 np hp => k' p dx2 H' (s2.trans s3) (s2.free np) hp
end
end Fu

/-! Ratio: orders, reflected methods, -, abs, bool, floor, str. -/
namespace Fu
open PySem L2
open PyProof.Rows hiding St
open L2H (RoomH roomH_of)
section
variable {P : Program} {w : World} {K : PySem.W.Frag} {mg : Str → Option Value} {base : Heap} {C : Addr}
theorem NewR.at {H H1 : Hp} {A B : Int} {Q : VK} (s : Same H H1) (k : NewR C H A B Q) : NewR C H1 A B Q := fun p dx H' n m s' np hp r e a b => k p dx H' n m (s.trans s') (s.free np) hp r e a b
/-- with an int on the left -/
def spRr (C : Addr) (F : Int → Int → Int → Int → Int) : Sp := fun vs H Q _ => ∃ (a dx : Addr) (n m i : Int), vs = [.ref a, .int i] ∧ H a = some (.ins C dx (rf n m)) ∧ Red n m ∧ small n ∧ small m ∧ small i ∧ NewR C H (F n m i 1) (m * 1) Q
theorem small_one : small 1 := by
  unfold small
  decide
theorem small_neg {n : Int} (h : small n) : small (-n) := by
  unfold small at *
  rw [Int.natAbs_neg]
  exact h
theorem sc_lt : FnScope ["self", "other", "top", "bottom"] ["self", "other"] (defScope sRatio_lt) := ⟨rfl, rfl, rfl, by decide +kernel, rfl, by decide +kernel, by decide +kernel⟩
def R_lt (a b : Int) : Bool := decide (a < b)
theorem ok_lt {f f1 f2 : Addr} {fd fd1 fd2 : FuncData} (F : Fun K "__lt__" "Ratio.__lt__" sRatio_lt f fd) (R : RatC K C) (G1 : Def P w K mg base CX0 2 "is_number" ["value"] (spIsNum C) f1 fd1)
    (G2 : Def P w K mg base CX0 1 "parts_of" ["number"] (spParts C) f2 fd2) : FnOk P w K mg base CX0 3 f fd ["self", "other"] (spCm C R_lt) := by
  refine F.ok sc_lt (fun vs H Q E h => ?_) (fun cdv A outer s H vs Q E hr h => ?_)
  · obtain ⟨a, dx, n, m, d, v, i, j, rfl, _⟩ := h
    rfl
  · obtain ⟨a, dx, n, m, d, v, i, j, rfl, ha, at1, hp, sn, sm, si, sj, k⟩ := h
    refine ⟨_, pss_cons (ps_if (pt_not (pt_val (pe_def G1 hr (pa_cons (pv 1) pa_nil)))) pss_never pss_nil)
      (pss_cons (ps_asg (pe_def G2 (hr.mono (by decide)) (pa_cons (pv 1) pa_nil)) (pg_tup rfl (pgs_cons (pg_name (i := 2) sc_lt.nd rfl (.inl rfl)) (pgs_cons (pg_name (i := 3) sc_lt.nd rfl (.inl rfl)) pgs_nil))))
      (pss_one (ps_ret (pe_cmpR op_lt (pe_op op_mulW (pe_fld (pv 0) rfl) (pv 3)) (pe_op op_mulW (pv 2) (pe_fld (pv 0) rfl)) (nomark _))))), ?_⟩
    refine ⟨_, rfl, d, v, rfl, at1, _, rfl, ?_⟩
    rw [isNum_of hp]
    refine iteF ⟨_, rfl, d, v, i, j, rfl, at1, hp, fun q nq => ?_⟩
    have ha2 := Same.new (o := .tup [.int i, .int j]) nq _ _ ha
    refine ⟨q, _, rfl, SqT.of upd_same, rfl, _, _, rfl, _, _, rfl, rfl, ?_⟩
    exact ⟨_, rfl, a, C, dx, _, _, rfl, ha2, R.ci.cl, R.nT, rf_top _ _, _, rfl, _, _, rfl, rfl, small_mul sn sj, _, rfl, _, rfl, a, C, dx, _, _, rfl, ha2, R.ci.cl, R.nB, rf_bot _ _, _, _, rfl, rfl, small_mul si sm, _, _, rfl, rfl, k _ (Same.new nq)⟩
theorem sc_le : FnScope ["self", "other", "top", "bottom"] ["self", "other"] (defScope sRatio_le) := ⟨rfl, rfl, rfl, by decide +kernel, rfl, by decide +kernel, by decide +kernel⟩
def R_le (a b : Int) : Bool := decide (a ≤ b)
theorem ok_le {f f1 f2 : Addr} {fd fd1 fd2 : FuncData} (F : Fun K "__le__" "Ratio.__le__" sRatio_le f fd) (R : RatC K C) (G1 : Def P w K mg base CX0 2 "is_number" ["value"] (spIsNum C) f1 fd1)
    (G2 : Def P w K mg base CX0 1 "parts_of" ["number"] (spParts C) f2 fd2) : FnOk P w K mg base CX0 3 f fd ["self", "other"] (spCm C R_le) := by
  refine F.ok sc_le (fun vs H Q E h => ?_) (fun cdv A outer s H vs Q E hr h => ?_)
  · obtain ⟨a, dx, n, m, d, v, i, j, rfl, _⟩ := h
    rfl
  · obtain ⟨a, dx, n, m, d, v, i, j, rfl, ha, at1, hp, sn, sm, si, sj, k⟩ := h
    refine ⟨_, pss_cons (ps_if (pt_not (pt_val (pe_def G1 hr (pa_cons (pv 1) pa_nil)))) pss_never pss_nil)
      (pss_cons (ps_asg (pe_def G2 (hr.mono (by decide)) (pa_cons (pv 1) pa_nil)) (pg_tup rfl (pgs_cons (pg_name (i := 2) sc_le.nd rfl (.inl rfl)) (pgs_cons (pg_name (i := 3) sc_le.nd rfl (.inl rfl)) pgs_nil))))
      (pss_one (ps_ret (pe_cmpR op_le (pe_op op_mulW (pe_fld (pv 0) rfl) (pv 3)) (pe_op op_mulW (pv 2) (pe_fld (pv 0) rfl)) (nomark _))))), ?_⟩
    refine ⟨_, rfl, d, v, rfl, at1, _, rfl, ?_⟩
    rw [isNum_of hp]
    refine iteF ⟨_, rfl, d, v, i, j, rfl, at1, hp, fun q nq => ?_⟩
    have ha2 := Same.new (o := .tup [.int i, .int j]) nq _ _ ha
    refine ⟨q, _, rfl, SqT.of upd_same, rfl, _, _, rfl, _, _, rfl, rfl, ?_⟩
    exact ⟨_, rfl, a, C, dx, _, _, rfl, ha2, R.ci.cl, R.nT, rf_top _ _, _, rfl, _, _, rfl, rfl, small_mul sn sj, _, rfl, _, rfl, a, C, dx, _, _, rfl, ha2, R.ci.cl, R.nB, rf_bot _ _, _, _, rfl, rfl, small_mul si sm, _, _, rfl, rfl, k _ (Same.new nq)⟩
theorem sc_gt : FnScope ["self", "other", "top", "bottom"] ["self", "other"] (defScope sRatio_gt) := ⟨rfl, rfl, rfl, by decide +kernel, rfl, by decide +kernel, by decide +kernel⟩
def R_gt (a b : Int) : Bool := decide (b < a)
theorem ok_gt {f f1 f2 : Addr} {fd fd1 fd2 : FuncData} (F : Fun K "__gt__" "Ratio.__gt__" sRatio_gt f fd) (R : RatC K C) (G1 : Def P w K mg base CX0 2 "is_number" ["value"] (spIsNum C) f1 fd1)
    (G2 : Def P w K mg base CX0 1 "parts_of" ["number"] (spParts C) f2 fd2) : FnOk P w K mg base CX0 3 f fd ["self", "other"] (spCm C R_gt) := by
  refine F.ok sc_gt (fun vs H Q E h => ?_) (fun cdv A outer s H vs Q E hr h => ?_)
  · obtain ⟨a, dx, n, m, d, v, i, j, rfl, _⟩ := h
    rfl
  · obtain ⟨a, dx, n, m, d, v, i, j, rfl, ha, at1, hp, sn, sm, si, sj, k⟩ := h
    refine ⟨_, pss_cons (ps_if (pt_not (pt_val (pe_def G1 hr (pa_cons (pv 1) pa_nil)))) pss_never pss_nil)
      (pss_cons (ps_asg (pe_def G2 (hr.mono (by decide)) (pa_cons (pv 1) pa_nil)) (pg_tup rfl (pgs_cons (pg_name (i := 2) sc_gt.nd rfl (.inl rfl)) (pgs_cons (pg_name (i := 3) sc_gt.nd rfl (.inl rfl)) pgs_nil))))
      (pss_one (ps_ret (pe_cmpR op_gt (pe_op op_mulW (pe_fld (pv 0) rfl) (pv 3)) (pe_op op_mulW (pv 2) (pe_fld (pv 0) rfl)) (nomark _))))), ?_⟩
    refine ⟨_, rfl, d, v, rfl, at1, _, rfl, ?_⟩
    rw [isNum_of hp]
    refine iteF ⟨_, rfl, d, v, i, j, rfl, at1, hp, fun q nq => ?_⟩
    have ha2 := Same.new (o := .tup [.int i, .int j]) nq _ _ ha
    refine ⟨q, _, rfl, SqT.of upd_same, rfl, _, _, rfl, _, _, rfl, rfl, ?_⟩
    exact ⟨_, rfl, a, C, dx, _, _, rfl, ha2, R.ci.cl, R.nT, rf_top _ _, _, rfl, _, _, rfl, rfl, small_mul sn sj, _, rfl, _, rfl, a, C, dx, _, _, rfl, ha2, R.ci.cl, R.nB, rf_bot _ _, _, _, rfl, rfl, small_mul si sm, _, _, rfl, rfl, k _ (Same.new nq)⟩
theorem sc_ge : FnScope ["self", "other", "top", "bottom"] ["self", "other"] (defScope sRatio_ge) := ⟨rfl, rfl, rfl, by decide +kernel, rfl, by decide +kernel, by decide +kernel⟩
def R_ge (a b : Int) : Bool := decide (b ≤ a)
theorem ok_ge {f f1 f2 : Addr} {fd fd1 fd2 : FuncData} (F : Fun K "__ge__" "Ratio.__ge__" sRatio_ge f fd) (R : RatC K C) (G1 : Def P w K mg base CX0 2 "is_number" ["value"] (spIsNum C) f1 fd1)
    (G2 : Def P w K mg base CX0 1 "parts_of" ["number"] (spParts C) f2 fd2) : FnOk P w K mg base CX0 3 f fd ["self", "other"] (spCm C R_ge) := by
  refine F.ok sc_ge (fun vs H Q E h => ?_) (fun cdv A outer s H vs Q E hr h => ?_)
  · obtain ⟨a, dx, n, m, d, v, i, j, rfl, _⟩ := h
    rfl
  · obtain ⟨a, dx, n, m, d, v, i, j, rfl, ha, at1, hp, sn, sm, si, sj, k⟩ := h
    refine ⟨_, pss_cons (ps_if (pt_not (pt_val (pe_def G1 hr (pa_cons (pv 1) pa_nil)))) pss_never pss_nil)
      (pss_cons (ps_asg (pe_def G2 (hr.mono (by decide)) (pa_cons (pv 1) pa_nil)) (pg_tup rfl (pgs_cons (pg_name (i := 2) sc_ge.nd rfl (.inl rfl)) (pgs_cons (pg_name (i := 3) sc_ge.nd rfl (.inl rfl)) pgs_nil))))
      (pss_one (ps_ret (pe_cmpR op_ge (pe_op op_mulW (pe_fld (pv 0) rfl) (pv 3)) (pe_op op_mulW (pv 2) (pe_fld (pv 0) rfl)) (nomark _))))), ?_⟩
    refine ⟨_, rfl, d, v, rfl, at1, _, rfl, ?_⟩
    rw [isNum_of hp]
    refine iteF ⟨_, rfl, d, v, i, j, rfl, at1, hp, fun q nq => ?_⟩
    have ha2 := Same.new (o := .tup [.int i, .int j]) nq _ _ ha
    refine ⟨q, _, rfl, SqT.of upd_same, rfl, _, _, rfl, _, _, rfl, rfl, ?_⟩
    exact ⟨_, rfl, a, C, dx, _, _, rfl, ha2, R.ci.cl, R.nT, rf_top _ _, _, rfl, _, _, rfl, rfl, small_mul sn sj, _, rfl, _, rfl, a, C, dx, _, _, rfl, ha2, R.ci.cl, R.nB, rf_bot _ _, _, _, rfl, rfl, small_mul si sm, _, _, rfl, rfl, k _ (Same.new nq)⟩
theorem sc_neg : FnScope ["self"] ["self"] (defScope sRatio_neg) := ⟨rfl, rfl, rfl, by decide +kernel, rfl, by decide +kernel, by decide +kernel⟩
def U_neg (n : Int) : Int := -n
theorem ok_neg {f f3 CI : Addr} {fd fd3 : FuncData} {ds : List Value} (F : Fun K "__neg__" "Ratio.__neg__" sRatio_neg f fd) (B : Bt mg) (R : RatC K C) (R2 : RatK K mg C) (M : RatM P w K mg base C CI f3 fd3 ds) : FnOk P w K mg base CX0 5 f fd ["self"] (spUn C U_neg) := by
  refine F.ok sc_neg (fun vs H Q E h => ?_) (fun cdv A outer s H vs Q E hr h => ?_)
  · obtain ⟨a, dx, n, m, rfl, _⟩ := h
    rfl
  · obtain ⟨a, dx, n, m, rfl, ha, rd, sm, k⟩ := h
    refine ⟨_, pss_one (ps_ret (pe_make M.m M.ok hr rfl R2.g M.b2 .nil passL (pa_cons (pe_un un_neg (pe_fld (pv 0) rfl)) (pa_cons (pe_fld (pv 0) rfl) pa_nil)))), ?_⟩
    refine ⟨_, rfl, a, C, dx, _, _, rfl, ha, R.ci.cl, R.nT, rf_top _ _, _, rfl, _, rfl, a, C, dx, _, _, rfl, ha, R.ci.cl, R.nB, rf_bot _ _, fun x dx' nx nd ne => ?_⟩
    have hm : m ≠ 0 := by have := rd.1; omega
    have e := red_self (red_neg rd)
    refine init_int nx nd ne hm (small9 sm) fun p dx2 H' s3 np hp => ?_
    rw [e.1, e.2] at hp
    exact k p dx2 H' s3 np hp
theorem sc_abs : FnScope ["self"] ["self"] (defScope sRatio_abs) := ⟨rfl, rfl, rfl, by decide +kernel, rfl, by decide +kernel, by decide +kernel⟩
def U_abs (n : Int) : Int := if n < 0 then -n else n
theorem ok_abs {f f3 CI : Addr} {fd fd3 : FuncData} {ds : List Value} (F : Fun K "__abs__" "Ratio.__abs__" sRatio_abs f fd) (B : Bt mg) (R : RatC K C) (R2 : RatK K mg C) (M : RatM P w K mg base C CI f3 fd3 ds) : FnOk P w K mg base CX0 5 f fd ["self"] (spUn C U_abs) := by
  refine F.ok sc_abs (fun vs H Q E h => ?_) (fun cdv A outer s H vs Q E hr h => ?_)
  · obtain ⟨a, dx, n, m, rfl, _⟩ := h
    rfl
  · obtain ⟨a, dx, n, m, rfl, ha, rd, sm, k⟩ := h
    refine ⟨_, pss_one (ps_ret (pe_make M.m M.ok hr rfl R2.g M.b2 .nil passL (pa_cons (pe_callB call_abs (by rfl) B.abs (by decide +kernel) (pa_cons (pe_fld (pv 0) rfl) pa_nil)) (pa_cons (pe_fld (pv 0) rfl) pa_nil)))), ?_⟩
    refine ⟨_, rfl, a, C, dx, _, _, rfl, ha, R.ci.cl, R.nT, rf_top _ _, _, rfl, _, rfl, a, C, dx, _, _, rfl, ha, R.ci.cl, R.nB, rf_bot _ _, fun x dx' nx nd ne => ?_⟩
    have hm : m ≠ 0 := by have := rd.1; omega
    have e := red_self (red_abs rd)
    refine init_int nx nd ne hm (small9 sm) fun p dx2 H' s3 np hp => ?_
    rw [e.1, e.2] at hp
    exact k p dx2 H' s3 np hp
theorem sc_bool : FnScope ["self"] ["self"] (defScope sRatio_bool) := ⟨rfl, rfl, rfl, by decide +kernel, rfl, by decide +kernel, by decide +kernel⟩
def spBool (C : Addr) : Sp := fun vs H Q _ => ∃ (a dx : Addr) (n m : Int), vs = [.ref a] ∧ H a = some (.ins C dx (rf n m)) ∧ Q (.bl (!decide (V.int n = V.int 0))) H
theorem ok_bool {f : Addr} {fd : FuncData} (F : Fun K "__bool__" "Ratio.__bool__" sRatio_bool f fd) (B : Bt mg) (R : RatC K C) : FnOk P w K mg base CX0 1 f fd ["self"] (spBool C) := by
  refine F.ok sc_bool (fun vs H Q E h => ?_) (fun cdv A outer s H vs Q E hr h => ?_)
  · obtain ⟨a, dx, n, m, rfl, _⟩ := h
    rfl
  · obtain ⟨a, dx, n, m, rfl, ha, k⟩ := h
    refine ⟨_, pss_one (ps_ret (pe_callTy call_bool1 (by rfl) B.bool (by decide +kernel) (pa_cons (pe_cmpR op_ne (pe_fld (pv 0) rfl) pe_int (nomark _)) pa_nil))), ?_⟩
    exact ⟨_, rfl, a, C, dx, _, _, rfl, ha, R.ci.cl, R.nT, rf_top _ _, rfl, .inr ⟨_, rfl, k⟩⟩
theorem sc_floor : FnScope ["self"] ["self"] (defScope sRatio_floor) := ⟨rfl, rfl, rfl, by decide +kernel, rfl, by decide +kernel, by decide +kernel⟩
def spFloor (C : Addr) : Sp := fun vs H Q _ => ∃ (a dx : Addr) (n m : Int), vs = [.ref a] ∧ H a = some (.ins C dx (rf n m)) ∧ m ≠ 0 ∧ small m ∧ Q (.int (n.fdiv m)) H
theorem ok_floor {f : Addr} {fd : FuncData} (F : Fun K "floor" "Ratio.floor" sRatio_floor f fd) (R : RatC K C) : FnOk P w K mg base CX0 1 f fd ["self"] (spFloor C) := by
  refine F.ok sc_floor (fun vs H Q E h => ?_) (fun cdv A outer s H vs Q E hr h => ?_)
  · obtain ⟨a, dx, n, m, rfl, _⟩ := h
    rfl
  · obtain ⟨a, dx, n, m, rfl, ha, hm, sm, k⟩ := h
    refine ⟨_, pss_one (ps_ret (pe_op op_fdivB (pe_fld (pv 0) rfl) (pe_fld (pv 0) rfl))), ?_⟩
    exact ⟨_, rfl, a, C, dx, _, _, rfl, ha, R.ci.cl, R.nT, rf_top _ _, _, rfl, a, C, dx, _, _, rfl, ha, R.ci.cl, R.nB, rf_bot _ _, _, _, rfl, rfl, ⟨hm, small9 sm⟩, k⟩
theorem sc_radd : FnScope ["self", "other"] ["self", "other"] (defScope sRatio_radd) := ⟨rfl, rfl, rfl, by decide +kernel, rfl, by decide +kernel, by decide +kernel⟩
theorem ok_radd {f fA g : Addr} {fd fdA : FuncData} (F : Fun K "__radd__" "Ratio.__radd__" sRatio_radd f fd) (GA : FnOk P w K mg base CX0 5 fA fdA ["self", "other"] (spAr C F_add)) (O : OwnB K C .Add fA g) (bA : Binds K fdA ["self", "other"] []) :
    FnOk P w K mg base CX0 6 f fd ["self", "other"] (spRr C F_add) := by
  refine F.ok sc_radd (fun vs H Q E h => ?_) (fun cdv A outer s H vs Q E hr h => ?_)
  · obtain ⟨a, dx, n, m, i, rfl, _⟩ := h
    rfl
  · obtain ⟨a, dx, n, m, i, rfl, ha, rd, sn, sm, si, k⟩ := h
    refine ⟨_, pss_one (ps_ret (pe_op (op_bin GA hr O bA) (pv 0) (pv 1))), ?_⟩
    exact ⟨_, rfl, _, rfl, a, dx, _, rfl, ha, .inl ⟨i, rfl⟩, a, dx, n, m, .int i, .int i, i, 1, rfl, ha, rfl, rfl, rd, by decide, sn, sm, si, small_one, k⟩
theorem sc_rmul : FnScope ["self", "other"] ["self", "other"] (defScope sRatio_rmul) := ⟨rfl, rfl, rfl, by decide +kernel, rfl, by decide +kernel, by decide +kernel⟩
theorem ok_rmul {f fA g : Addr} {fd fdA : FuncData} (F : Fun K "__rmul__" "Ratio.__rmul__" sRatio_rmul f fd) (GA : FnOk P w K mg base CX0 5 fA fdA ["self", "other"] (spAr C F_mul)) (O : OwnB K C .Mult fA g) (bA : Binds K fdA ["self", "other"] []) :
    FnOk P w K mg base CX0 6 f fd ["self", "other"] (spRr C F_mul) := by
  refine F.ok sc_rmul (fun vs H Q E h => ?_) (fun cdv A outer s H vs Q E hr h => ?_)
  · obtain ⟨a, dx, n, m, i, rfl, _⟩ := h
    rfl
  · obtain ⟨a, dx, n, m, i, rfl, ha, rd, sn, sm, si, k⟩ := h
    refine ⟨_, pss_one (ps_ret (pe_op (op_bin GA hr O bA) (pv 0) (pv 1))), ?_⟩
    exact ⟨_, rfl, _, rfl, a, dx, _, rfl, ha, .inl ⟨i, rfl⟩, a, dx, n, m, .int i, .int i, i, 1, rfl, ha, rfl, rfl, rd, by decide, sn, sm, si, small_one, k⟩
theorem sc_rsub : FnScope ["self", "other"] ["self", "other"] (defScope sRatio_rsub) := ⟨rfl, rfl, rfl, by decide +kernel, rfl, by decide +kernel, by decide +kernel⟩
def F_rsub (n m i j : Int) : Int := F_add (-n) m i j
theorem ok_rsub {f fA g fN : Addr} {fd fdA fdN : FuncData} (F : Fun K "__rsub__" "Ratio.__rsub__" sRatio_rsub f fd) (GA : FnOk P w K mg base CX0 5 fA fdA ["self", "other"] (spAr C F_add)) (O : OwnB K C .Add fA g) (bA : Binds K fdA ["self", "other"] [])
    (GN : FnOk P w K mg base CX0 5 fN fdN ["self"] (spUn C U_neg)) (ON : Own K C "__neg__" fN) (bN : Binds K fdN ["self"] []) : FnOk P w K mg base CX0 6 f fd ["self", "other"] (spRr C F_rsub) := by
  refine F.ok sc_rsub (fun vs H Q E h => ?_) (fun cdv A outer s H vs Q E hr h => ?_)
  · obtain ⟨a, dx, n, m, i, rfl, _⟩ := h
    rfl
  · obtain ⟨a, dx, n, m, i, rfl, ha, rd, sn, sm, si, k⟩ := h
    refine ⟨_, pss_one (ps_ret (pe_op (op_bin GA hr O bA) (pe_un (un_negO GN hr ON bN) (pv 0)) (pv 1))), ?_⟩
    refine ⟨_, rfl, a, dx, _, rfl, ha, a, dx, n, m, rfl, ha, rd, sm, fun p dx2 H1 s1 np hp => ?_⟩
    exact ⟨_, rfl, p, dx2, _, rfl, hp, .inl ⟨i, rfl⟩, p, dx2, -n, m, .int i, .int i, i, 1, rfl, hp, rfl, rfl, red_neg rd, by decide, small_neg sn, sm, si, small_one, k.at s1⟩
theorem sc_str : FnScope ["self"] ["self"] (defScope sRatio_str) := ⟨rfl, rfl, rfl, by decide +kernel, rfl, by decide +kernel, by decide +kernel⟩
theorem ok_str {f : Addr} {fd : FuncData} (F : Fun K "__str__" "Ratio.__str__" sRatio_str f fd) (gs : mg "str" = none) (R : RatC K C) : FnA P w K mg base 1 f fd ["self"] (spRepr C) := by
  refine Fun.okA F sc_str (fun vs H Q E h => ?_) (fun cdv A outer s H vs Q E hr h => ?_)
  · obtain ⟨a, dx, n, m, rfl, _⟩ := h
    rfl
  · obtain ⟨a, dx, n, m, rfl, ha, hn, hm, k⟩ := h
    refine ⟨_, pss_cons (ps_if (pt_cmpR op_eq (pe_fld (pv 0) rfl) pe_int (nomark _)) (pss_one (ps_ret (pe_callTy call_str_int (by rfl) gs (by decide +kernel) (pa_cons (pe_fld (pv 0) rfl) pa_nil)))) pss_nil)
      (pss_one (ps_ret (pe_joined (.cons (pe_fmt (pe_fld (pv 0) rfl)) (.cons pe_str (.cons (pe_fmt (pe_fld (pv 0) rfl)) .nil)))))), ?_⟩
    refine ⟨_, rfl, a, C, dx, _, _, rfl, ha, R.ci.cl, R.nB, rf_bot _ _, rfl, _, rfl, ?_⟩
    by_cases e : m = 1
    · subst e
      refine if_true_of (by simp) ⟨_, rfl, a, C, dx, _, _, rfl, ha, R.ci.cl, R.nT, rf_top _ _, _, rfl, by omega, ?_⟩
      unfold rTxt at k
      rw [if_pos rfl] at k
      exact k
    · refine if_false_of (by simpa using e) ⟨_, rfl, a, C, dx, _, _, rfl, ha, R.ci.cl, R.nT, rf_top _ _, .inr ⟨_, rfl, by omega, ?_⟩⟩
      have l1 := int_len (i := n) (by omega)
      have l2 := int_len (i := m) (by omega)
      have lS : (Str.ofString "/").length = 1 := by decide +kernel
      refine ⟨_, rfl, by rw [Str.empty_append, sizeLine_eq]; omega, _, rfl, by rw [Str.empty_append, Str.length_append, lS, sizeLine_eq]; omega, ?_⟩
      refine ⟨_, rfl, a, C, dx, _, _, rfl, ha, R.ci.cl, R.nB, rf_bot _ _, .inr ⟨_, rfl, by omega, _, rfl, by rw [Str.empty_append, Str.length_append, Str.length_append, lS, sizeLine_eq]; omega, ?_⟩⟩
      unfold rTxt at k
      rw [if_neg e] at k
      rw [Str.empty_append]
      exact k
end
end Fu

/-! Ratio's operators as rules over numbers: Ratios and ints. -/
namespace Fu
open PySem L2
open PyProof.Rows hiding St
open L2H (RoomH roomH_of)
def isRt : D → Bool
  | .rat _ _ => true
  | _ => false
/-- a method of the class, with its promise -/
def MethO (P : Program) (w : World) (K : PySem.W.Frag) (mg : Str → Option Value) (base : Heap) (C : Addr) (x : Str) (k : Nat) (ps : List Str) (sp : Sp) : Prop :=
  ∃ (f : Addr) (fd : FuncData), FnOk P w K mg base CX0 k f fd ps sp ∧ Own K C x f ∧ Binds K fd ps [] ∧ PySem.W.keepIn K (.ref f) = true
def BinO (P : Program) (w : World) (K : PySem.W.Frag) (mg : Str → Option Value) (base : Heap) (C : Addr) (op : Operator) (F G : Int → Int → Int → Int → Int) : Prop :=
  ∃ (f g : Addr) (fd fdg : FuncData), FnOk P w K mg base CX0 5 f fd ["self", "other"] (spAr C F) ∧ FnOk P w K mg base CX0 6 g fdg ["self", "other"] (spRr C G) ∧ OwnB K C op f g ∧ Binds K fd ["self", "other"] [] ∧ Binds K fdg ["self", "other"] []
/-- all of it -/
structure RatO (P : Program) (w : World) (K : PySem.W.Frag) (mg : Str → Option Value) (base : Heap) (C : Addr) : Prop where
  r : RatC K C
  r2 : RatK K mg C
  nb : NoB K C
  ne : PySem.W.findIn K (.ref C) "__ne__" = some (some (.builtin "object.__ne__"))
  add : BinO P w K mg base C .Add F_add F_add
  sub : BinO P w K mg base C .Sub F_sub F_rsub
  mul : BinO P w K mg base C .Mult F_mul F_mul
  eq : MethO P w K mg base C "__eq__" 3 ["self", "other"] (spEqR C)
  lt : MethO P w K mg base C "__lt__" 3 ["self", "other"] (spCm C R_lt)
  le : MethO P w K mg base C "__le__" 3 ["self", "other"] (spCm C R_le)
  gt : MethO P w K mg base C "__gt__" 3 ["self", "other"] (spCm C R_gt)
  ge : MethO P w K mg base C "__ge__" 3 ["self", "other"] (spCm C R_ge)
  neg : MethO P w K mg base C "__neg__" 5 ["self"] (spUn C U_neg)
  abs : MethO P w K mg base C "__abs__" 5 ["self"] (spUn C U_abs)
  bool : MethO P w K mg base C "__bool__" 1 ["self"] (spBool C)
  floor : MethO P w K mg base C "floor" 1 ["self"] (spFloor C)
  str : MethO P w K mg base C "__str__" 1 ["self"] (spRepr C)
/-- a number of this heap: x is d, that is n / m in lowest terms -/
structure Nm (C : Addr) (H : Hp) (x : V) (d : D) (n m : Int) : Prop where
  at_ : At C H d x
  p : prt d = some (n, m)
  r : Red n m
  sn : small n
  sm : small m
theorem Nm.ex {C : Addr} {H H' : Hp} {x : V} {d : D} {n m : Int} (h : Nm C H x d n m) (s : Same H H') : Nm C H' x d n m := ⟨h.at_.ex s, h.p, h.r, h.sn, h.sm⟩
theorem Nm.cases {C : Addr} {H : Hp} {x : V} {d : D} {n m : Int} (h : Nm C H x d n m) : (x = .int n ∧ m = 1 ∧ d = .int n) ∨ ∃ a dx, x = .ref a ∧ d = .rat n m ∧ H a = some (.ins C dx (rf n m)) := by
  have p := h.p
  have a := h.at_
  cases d with
  | int i =>
    cases p
    exact .inl ⟨a, rfl, rfl⟩
  | rat i j =>
    cases p
    obtain ⟨a, dx, rfl, ha⟩ := a
    exact .inr ⟨a, dx, rfl, rfl, ha⟩
  | _ => cases p
theorem eqR_red {n m i j : Int} {e : D} (p : prt e = some (i, j)) (h : Red n m) (h' : Red i j) : eqR n m e = decide (n * j = i * m) := by
  unfold eqR
  rw [p]
  by_cases q : n * j = i * m
  · obtain ⟨rfl, rfl⟩ := red_one h h' q
    simp
  · rw [decide_eq_false q]
    have : ¬ (n = i ∧ m = j) := by
      rintro ⟨rfl, rfl⟩
      exact q rfl
    simpa using this
theorem nf_num {K : PySem.W.Frag} {C : Addr} {e : D} {i j : Int} (p : prt e = some (i, j)) : PySem.W.notFirst K C (tyD C e) = true := by
  cases e with
  | int i => exact nf_int
  | rat i j => simp [tyD, PySem.W.notFirst]
  | _ => cases p
section
variable {X : Cx} {C : Addr}
/-- x op y of numbers, not both ints -/
def rNumC (C : Addr) (R : Int → Int → Bool) : R2 := fun x y H Q => ∃ d e n m i j, Nm C H x d n m ∧ Nm C H y e i j ∧ (isRt d || isRt e) = true ∧ ∀ H', Same H H' → Q (.bl (R (n * j) (i * m))) H'
theorem op_numC {op : CmpOp} {R R' : Int → Int → Bool} (O : RatO X.prog X.w X.K X.mg X.base C) (hr : Room 3 X.A) (Ic : IntC op C) (h : MethO X.prog X.w X.K X.mg X.base C (cmpInfo op).2.1 3 ["self", "other"] (spCm C R)) (h' : MethO X.prog X.w X.K X.mg X.base C (cmpInfo op).2.2 3 ["self", "other"] (spCm C R'))
    (hR : ∀ a b, R' a b = R b a) (ho : ∀ a b, compareOp op a b = richCompare op a b) : OpR X (compareOp op) (rNumC C R) := by
  intro pins s σ H x y u v Q I rx ry z
  obtain ⟨d, e, n, m, i, j, hx, hy, hne, k⟩ := z
  obtain ⟨f, fd, F, M, b, _⟩ := h
  obtain ⟨f', fd', F', M', b', _⟩ := h'
  rcases hx.cases with ⟨rfl, rfl, rfl⟩ | ⟨a, dx, rfl, rfl, ha⟩
  · rcases hy.cases with ⟨rfl, rfl, rfl⟩ | ⟨a, dx, rfl, rfl, ha⟩
    · cases hne
    · refine op_cmpR Ic F' hr (O.nb.m _ (by decide)) M' b' ho pins s σ H _ _ u v Q I rx ry ⟨n, a, dx, _, rfl, rfl, ha, a, dx, i, j, .int n, .int n, n, 1, rfl, ha, rfl, rfl, hy.sn, hy.sm, hx.sn, small_one, fun H' s' => ?_⟩
      rw [hR]
      exact k H' s'
  · exact op_own F hr M.at_ M.fn b pass0 ho pins s σ H _ _ u v Q I rx ry ⟨a, dx, _, tyD C e, rfl, ha, ty_at O.r.ci hy.at_, nf_num hy.p, a, dx, n, m, e, y, i, j, rfl, ha, hy.at_, hy.p, hx.sn, hx.sm, hy.sn, hy.sm, k⟩
theorem op_numLt (O : RatO X.prog X.w X.K X.mg X.base C) (hr : Room 3 X.A) : OpR X (compareOp .Lt) (rNumC C R_lt) := op_numC O hr intc_lt O.lt O.gt (fun _ _ => rfl) fun _ _ => rfl
theorem op_numLe (O : RatO X.prog X.w X.K X.mg X.base C) (hr : Room 3 X.A) : OpR X (compareOp .LtE) (rNumC C R_le) := op_numC O hr intc_le O.le O.ge (fun _ _ => rfl) fun _ _ => rfl
theorem op_numGt (O : RatO X.prog X.w X.K X.mg X.base C) (hr : Room 3 X.A) : OpR X (compareOp .Gt) (rNumC C R_gt) := op_numC O hr intc_gt O.gt O.lt (fun _ _ => rfl) fun _ _ => rfl
theorem op_numGe (O : RatO X.prog X.w X.K X.mg X.base C) (hr : Room 3 X.A) : OpR X (compareOp .GtE) (rNumC C R_ge) := op_numC O hr intc_ge O.ge O.le (fun _ _ => rfl) fun _ _ => rfl
def R_eq (a b : Int) : Bool := decide (a = b)
def R_ne (a b : Int) : Bool := !decide (a = b)
theorem R_eq_comm (a b : Int) : R_eq a b = R_eq b a := by
  unfold R_eq
  rw [Bool.eq_iff_iff, decide_eq_true_eq, decide_eq_true_eq]
  exact ⟨Eq.symm, Eq.symm⟩
theorem op_numEq (O : RatO X.prog X.w X.K X.mg X.base C) (hr : Room 3 X.A) : OpR X (compareOp .Eq) (rNumC C R_eq) := by
  intro pins s σ H x y u v Q I rx ry z
  obtain ⟨d, e, n, m, i, j, hx, hy, hne, k⟩ := z
  obtain ⟨f, fd, F, M, b, _⟩ := O.eq
  rcases hx.cases with ⟨rfl, rfl, rfl⟩ | ⟨a, dx, rfl, rfl, ha⟩
  · rcases hy.cases with ⟨rfl, rfl, rfl⟩ | ⟨a, dx, rfl, rfl, ha⟩
    · cases hne
    · refine op_cmpR intc_eq F hr (O.nb.m _ (by decide)) M b (fun _ _ => rfl) pins s σ H _ _ u v Q I rx ry ⟨n, a, dx, _, rfl, rfl, ha, a, dx, i, j, .int n, .int n, rfl, ha, rfl, fun H' s' => ?_⟩
      rw [eqR_red hx.p hy.r hx.r]
      have q := k H' s'
      rw [R_eq_comm] at q
      exact q
  · refine op_own F hr M.at_ M.fn b pass0 (fun _ _ => rfl) pins s σ H _ _ u v Q I rx ry ⟨a, dx, _, tyD C e, rfl, ha, ty_at O.r.ci hy.at_, nf_num hy.p, a, dx, n, m, e, y, rfl, ha, hy.at_, fun H' s' => ?_⟩
    rw [eqR_red hy.p hx.r hy.r]
    exact k H' s'
theorem op_numNe (O : RatO X.prog X.w X.K X.mg X.base C) (hr : Room 4 X.A) : OpR X (compareOp .NotEq) (rNumC C R_ne) := by
  intro pins s σ H x y u v Q I rx ry z
  obtain ⟨d, e, n, m, i, j, hx, hy, hne, k⟩ := z
  obtain ⟨f, fd, F, M, b, _⟩ := O.eq
  rcases hx.cases with ⟨rfl, rfl, rfl⟩ | ⟨a, dx, rfl, rfl, ha⟩
  · rcases hy.cases with ⟨rfl, rfl, rfl⟩ | ⟨a, dx, rfl, rfl, ha⟩
    · cases hne
    · refine op_neR F hr (O.nb.m _ (by decide)) O.r.ci.hm O.ne M b pins s σ H _ _ u v Q I rx ry ⟨n, a, dx, _, rfl, rfl, ha, a, dx, i, j, .int n, .int n, rfl, ha, rfl, fun H' s' => ⟨_, rfl, ?_⟩⟩
      rw [eqR_red hx.p hy.r hx.r]
      have q := k H' s'
      have e := R_eq_comm (n * j) (i * 1)
      unfold R_eq at e
      unfold R_ne at q
      rw [e] at q
      exact q
  · refine op_neOwn F hr O.r.ci.hm O.ne M.at_ M.fn b pins s σ H _ _ u v Q I rx ry ⟨a, dx, _, tyD C e, rfl, ha, ty_at O.r.ci hy.at_, nf_num hy.p, a, dx, n, m, e, y, rfl, ha, hy.at_, fun H' s' => ⟨_, rfl, ?_⟩⟩
    rw [eqR_red hy.p hx.r hy.r]
    exact k H' s'
/-- x + y and its like -/
def rNumA (C : Addr) (F : Int → Int → Int → Int → Int) : R2 := fun x y H Q => ∃ d e n m i j, Nm C H x d n m ∧ Nm C H y e i j ∧ (isRt d || isRt e) = true ∧ NewR C H (F n m i j) (m * j) Q
theorem op_numA {op : Operator} {F G : Int → Int → Int → Int → Int} (hr : Room 6 X.A) (h : BinO X.prog X.w X.K X.mg X.base C op F G) (hG : ∀ n m i, G n m i 1 = F i 1 n m) : OpR X (binaryOp op) (rNumA C F) := by
  intro pins s σ H x y u v Q I rx ry z
  obtain ⟨d, e, n, m, i, j, hx, hy, hne, k⟩ := z
  obtain ⟨f, g, fd, fdg, F1, F2, O, b1, b2⟩ := h
  rcases hx.cases with ⟨rfl, rfl, rfl⟩ | ⟨a, dx, rfl, rfl, ha⟩
  · rcases hy.cases with ⟨rfl, rfl, rfl⟩ | ⟨a, dx, rfl, rfl, ha⟩
    · cases hne
    · refine op_binR F2 hr O b2 pins s σ H _ _ u v Q I rx ry ⟨n, a, dx, _, rfl, rfl, ha, a, dx, i, j, n, rfl, ha, hy.r, hy.sn, hy.sm, hx.sn, ?_⟩
      rw [hG, Int.mul_comm]
      exact k
  · refine op_bin F1 (hr.mono (by decide)) O b1 pins s σ H _ _ u v Q I rx ry ⟨a, dx, _, rfl, ha, ?_, a, dx, n, m, e, y, i, j, rfl, ha, hy.at_, hy.p, hx.r, hy.r.1, hx.sn, hx.sm, hy.sn, hy.sm, k⟩
    rcases hy.cases with ⟨rfl, rfl, rfl⟩ | ⟨a', dx', rfl, rfl, ha'⟩
    · exact .inl ⟨_, rfl⟩
    · exact .inr ⟨_, _, _, rfl, ha'⟩
theorem op_numAdd (O : RatO X.prog X.w X.K X.mg X.base C) (hr : Room 6 X.A) : OpR X (binaryOp .Add) (rNumA C F_add) := op_numA hr O.add fun n m i => by unfold F_add; rw [Int.add_comm, Int.mul_comm n 1]
theorem op_numSub (O : RatO X.prog X.w X.K X.mg X.base C) (hr : Room 6 X.A) : OpR X (binaryOp .Sub) (rNumA C F_sub) := op_numA hr O.sub fun n m i => by unfold F_rsub F_add F_sub; omega
theorem op_numMul (O : RatO X.prog X.w X.K X.mg X.base C) (hr : Room 6 X.A) : OpR X (binaryOp .Mult) (rNumA C F_mul) := op_numA hr O.mul fun n m i => by unfold F_mul; rw [Int.mul_comm]
end
end Fu

namespace Fu
open PySem L2
open PyProof.Rows hiding St
open L2H (RoomH roomH_of)
structure Bu (mg : Str → Option Value) : Prop where
  len : mg "len" = none
  abs : mg "abs" = none
  int : mg "int" = none
section
variable {P : Program} {w : World} {K : PySem.W.Frag} {mg : Str → Option Value} {base : Heap} {C : Addr}
/-! ### the pool -/
theorem b01 (b : Bool) : -(2 ^ 64 : Int) < (if b = true then 1 else 0) ∧ (if b = true then (1 : Int) else 0) < 2 ^ 64 ∧ (0 : Int) ≤ (if b = true then 1 else 0) := by cases b <;> decide
def spPool (K : PySem.W.Frag) : Sp := fun vs H Q _ => ∃ (a : Addr) (ns : List Int) (k : Nat), vs = [.ref a, .int k] ∧ SqL K H a (ns.map V.int) ∧ k ≤ 63 ∧
  ∀ (p : Addr) (x y : Int), H p = none → 0 ≤ x → 0 ≤ y → Q (.ref p) (upd H p (.lst [.int x, .int y]))
theorem scPool : FnScope ["_law_script", "_law_k", "_law_cell", "_law_size", "_law_seed"] ["_law_script", "_law_k"] (defScope sPool) := ⟨rfl, rfl, rfl, by decide +kernel, rfl, by decide +kernel, by decide +kernel⟩
theorem ok_pool {f : Addr} {fd : FuncData} (F : Fun K "_law_pool" "_law_pool" sPool f fd) (B : Bu mg) : FnOk P w K mg base CX0 1 f fd ["_law_script", "_law_k"] (spPool K) := by
  refine F.ok scPool (fun vs H Q E h => ?_) (fun cdv A outer s H vs Q E hr h => ?_)
  · obtain ⟨a, ns, k, rfl, _⟩ := h
    rfl
  · obtain ⟨a, ns, k, rfl, hS, hk, kQ⟩ := h
    refine ⟨_, pss_cons (ps_set (i := 2) scPool.nd rfl (Or.inl rfl) pe_int)
      (Evl.pss_cut (ps_if (pt_cmpR op_lt (pv 1) (pe_callB call_len_seq (by rfl) B.len PySem.boot_len (pa_cons (pv 0) pa_nil)) (nomark _)) (pss_one (ps_set (i := 2) scPool.nd rfl (Or.inl rfl) (pe_ix ix_list (pv 0) (pv 1) (fun _ _ => rfl)))) pss_nil)
      (pss_cons (ps_set (i := 3) scPool.nd rfl (Or.inl rfl) (pe_callB call_abs (by rfl) B.abs (by decide +kernel) (pa_cons (pv 2) pa_nil)))
      (pss_cons (ps_set (i := 4) scPool.nd rfl (Or.inl rfl) (pe_op op_mod (pe_op op_pow (pe_op op_add (pe_op op_add (pe_op op_add (pe_op op_mod (pv 2) pe_int) (pe_op op_mul (pe_op op_mul pe_int (pv 1)) (pv 1))) (pe_op op_mul pe_int (pv 1))) pe_int) pe_int) pe_int))
      (pss_one (ps_ret (pe_lst (pa_cons (pe_op op_mul (pv 3) (pe_callTy call_int1 (by rfl) B.int (by decide +kernel) (pa_cons (pe_cmpR op_ge (pv 3) (pe_op op_pow pe_int pe_int) (nomark _)) pa_nil))) (pa_cons (pv 4) pa_nil)))))))), ?_⟩
    refine ⟨fun σ' H' => H' = H ∧ ∃ c : Int, σ' = [some (.ref a), some (.int k), some (.int c), none, none], ?_, ?_⟩
    · refine ⟨_, rfl, _, rfl, a, _, rfl, .inl hS, _, _, rfl, rfl, _, rfl, ?_⟩
      by_cases hlt : k < ns.length
      · refine if_true_of (by simpa using hlt) ⟨_, rfl, _, rfl, a, _, _, .int (ns[k]'hlt), rfl, rfl, hS, ?_, rfl, _, rfl⟩
        rw [atI_nat (j := k) (v := .int (ns[k]'hlt))]
        simp [hlt]
      · exact if_false_of (by simpa using hlt) ⟨rfl, 0, rfl⟩
    · rintro σ' H' ⟨rfl, c, rfl⟩
      have hm := Int.emod_nonneg c (show (2147483629 : Int) ≠ 0 by decide)
      have hM := Int.emod_lt_of_pos c (show (0 : Int) < 2147483629 by decide)
      have hkk : (104729 : Int) * k * k ≤ 104729 * 63 * 63 := by
        have h1 : (k : Int) ≤ 63 := by omega
        have h2 : (104729 : Int) * k ≤ 104729 * 63 := by omega
        exact Int.mul_le_mul h2 h1 (by omega) (by omega)
      have hk0 : (0 : Int) ≤ 104729 * k * k := Int.mul_nonneg (by omega) (by omega)
      refine ⟨_, rfl, _, rfl, ?_⟩
      refine ⟨_, rfl, _, _, rfl, rfl, (by show (0 : Int) < 2147483629; decide), _, rfl, _, _, rfl, rfl, .inl ⟨by decide, by decide⟩, _, rfl, _, _, rfl, rfl, .inr ⟨by omega, by omega⟩, _, _, rfl, rfl, _, rfl, _, _, rfl, rfl, .inl ⟨by decide, by decide⟩, _, _, rfl, rfl, _, _, rfl, rfl, _, _, rfl, rfl,
        ⟨by decide, by decide, by omega⟩, _, _, rfl, rfl, (by show (0 : Int) < 2147483647; decide), ?_⟩
      refine ⟨_, rfl, _, rfl, _, _, rfl, rfl, ⟨by decide, by decide, by decide⟩, _, _, rfl, rfl, .inr ⟨_, rfl, _, _, rfl, rfl, .inr ⟨(b01 _).1, (b01 _).2.1⟩, _, rfl, (by show 2 ≤ sizeLine; decide), fun p hp => ?_⟩⟩
      refine kQ p _ _ hp (Int.mul_nonneg (by split <;> omega) (b01 _).2.2) (Int.emod_nonneg _ (by decide))
/-! ### the draws -/
def spTake : Sp := fun vs H Q _ => ∃ (p : Addr) (x y m : Int), vs = [.ref p, .int m] ∧ H p = some (.lst [.int x, .int y]) ∧ 0 ≤ x ∧ 0 ≤ y ∧ 0 < m ∧ m.natAbs.log2 < 9000 ∧
  ∀ (x' y' r : Int), 0 ≤ x' → 0 ≤ y' → 0 ≤ r → r < m → Q (.int r) (upd H p (.lst [.int x', .int y']))
theorem scTake : FnScope ["_law_pool_here", "_law_many", "_law_found"] ["_law_pool_here", "_law_many"] (defScope sTake) := ⟨rfl, rfl, rfl, by decide +kernel, rfl, by decide +kernel, by decide +kernel⟩
theorem ok_take {f : Addr} {fd : FuncData} (F : Fun K "_law_take" "_law_take" sTake f fd) : FnOk P w K mg base CX0 1 f fd ["_law_pool_here", "_law_many"] spTake := by
  refine F.ok scTake (fun vs H Q E h => ?_) (fun cdv A outer s H vs Q E hr h => ?_)
  · obtain ⟨p, x, y, m, rfl, _⟩ := h
    rfl
  · obtain ⟨p, x, y, m, rfl, hp, hx, hy, hm, hl, k⟩ := h
    have it0 : atI [V.int x, V.int y] 0 = some (.int x) := rfl
    refine ⟨_, pss_cons (ps_if (pt_cmpR op_gt (pe_ix ix_list (pv 0) pe_int (fun _ _ => rfl)) pe_int (nomark _))
        (pss_cons (ps_set (i := 2) scTake.nd rfl (Or.inl rfl) (pe_op op_mod (pe_ix ix_list (pv 0) pe_int (fun _ _ => rfl)) (pv 1)))
        (pss_cons (ps_asg (pe_op op_fdivB (pe_ix ix_list (pv 0) pe_int (fun _ _ => rfl)) (pv 1)) (pg_sub (pv 0) pe_int set_list))
        (pss_one (ps_ret (pv 2))))) pss_nil)
      (pss_cons (ps_asg (pe_op op_mod (pe_op op_add (pe_op op_mul (pe_ix ix_list (pv 0) pe_int (fun _ _ => rfl)) pe_int) pe_int) pe_int) (pg_sub (pv 0) pe_int set_list))
      (pss_one (ps_ret (pe_op op_mod (pe_op op_fdiv (pe_op op_mod (pe_op op_mulW (pe_ix ix_list (pv 0) pe_int (fun _ _ => rfl)) (pe_ix ix_list (pv 0) pe_int (fun _ _ => rfl))) pe_int) pe_int) (pv 1))))), ?_⟩
    refine ⟨_, rfl, p, _, _, _, rfl, rfl, SqL.of hp, rfl, _, _, rfl, rfl, _, rfl, ?_⟩
    by_cases h0 : 0 < x
    · refine if_true_of (by simpa using h0) ⟨_, rfl, p, _, _, _, rfl, rfl, SqL.of hp, rfl, _, rfl, _, _, rfl, rfl, hm, ?_⟩
      refine ⟨_, rfl, p, _, _, _, rfl, rfl, SqL.of hp, rfl, _, rfl, _, _, rfl, rfl, ⟨by omega, hl⟩, ?_⟩
      refine ⟨_, rfl, p, _, _, 0, rfl, rfl, hp, rfl, _, rfl, ?_⟩
      exact k _ _ _ (by rw [Int.fdiv_eq_ediv_of_nonneg _ (by omega)]; exact Int.ediv_nonneg hx (by omega)) hy (Int.emod_nonneg _ (by omega)) (Int.emod_lt_of_pos _ hm)
    · refine if_false_of (by simpa using h0) ⟨_, rfl, p, _, _, _, rfl, rfl, SqL.of hp, rfl, _, _, rfl, rfl, .inr ⟨by decide, by decide⟩, _, _, rfl, rfl, _, _, rfl, rfl, (by show (0 : Int) < 2147483647; decide), ?_⟩
      have b1 := Int.emod_nonneg (y * 48271 + 11) (show (2147483647 : Int) ≠ 0 by decide)
      have b2 := Int.emod_lt_of_pos (y * 48271 + 11) (show (0 : Int) < 2147483647 by decide)
      have bw : CMulW ((y * 48271 + 11) % 2147483647) ((y * 48271 + 11) % 2147483647) := wide_mul (a := 32) (b := 32) (by omega) (by omega) (by decide) (by decide) (by decide)
      refine ⟨_, rfl, p, _, _, 1, rfl, rfl, hp, rfl, _, rfl, p, _, _, _, rfl, rfl, SqL.of upd_same, rfl, _, rfl, p, _, _, _, rfl, rfl, SqL.of upd_same, rfl, _, _, rfl, rfl, bw, _, _, rfl, rfl, (by show (0 : Int) < 2147483629; decide), _, _, rfl, rfl, ⟨by decide, by decide⟩, _, rfl, _, _, rfl, rfl, hm, ?_⟩
      exact k _ _ _ hx b1 (Int.emod_nonneg _ (by omega)) (Int.emod_lt_of_pos _ hm)
end
end Fu

namespace Fu
open PySem L2
open PyProof.Rows hiding St
open L2H (RoomH roomH_of)
/-! ### bounds -/
def bd (k : Nat) (x : Int) : Prop := x.natAbs < 2 ^ k
theorem bd_small {k : Nat} {x : Int} (h : bd k x) (hk : k ≤ 4000) : small x := by
  unfold small
  by_cases e : x.natAbs = 0
  · rw [e]
    decide
  · exact (Nat.log2_lt e).mpr (Nat.lt_of_lt_of_le h (Nat.pow_le_pow_right (by decide) hk))
theorem bd_mono {k j : Nat} {x : Int} (h : bd k x) (hk : k ≤ j) : bd j x := Nat.lt_of_lt_of_le h (Nat.pow_le_pow_right (by decide) hk)
theorem bd_mul {i j : Nat} {x y : Int} (h : bd i x) (h' : bd j y) : bd (i + j) (x * y) := by
  unfold bd
  rw [Int.natAbs_mul, Nat.pow_add]
  exact Nat.mul_lt_mul'' h h'
theorem bd_add {i : Nat} {x y : Int} (h : bd i x) (h' : bd i y) : bd (i + 1) (x + y) := by
  unfold bd at *
  have := Int.natAbs_add_le x y
  rw [Nat.pow_succ]
  omega
theorem bd_neg {i : Nat} {x : Int} (h : bd i x) : bd i (-x) := by
  unfold bd at *
  rw [Int.natAbs_neg]
  exact h
theorem bd_sub {i : Nat} {x y : Int} (h : bd i x) (h' : bd i y) : bd (i + 1) (x - y) := by
  rw [Int.sub_eq_add_neg]
  exact bd_add h (bd_neg h')
theorem bd_le {k : Nat} {x y : Int} (h : bd k y) (hl : x.natAbs ≤ y.natAbs) : bd k x := Nat.lt_of_le_of_lt hl h
theorem bd_10_58 {x : Int} (h : x.natAbs ≤ 10 ^ 58) : bd 193 x := Nat.lt_of_le_of_lt h (by decide)
theorem bd_1 : bd 1 1 := by
  unfold bd
  decide
/-! ### Euclid's steps -/
def Eu (t a b : Nat) : Prop := Nat.gcd a b = 1 ∧ (b = 0 ∨ (t = 0 ∧ a * b ≤ 2 ^ 1800) ∨ (b < a ∧ a * b * 2 ^ t ≤ 2 ^ 1801))
theorem eu_zero {t a : Nat} (h : Eu t a 0) : Eu (t + 1) a 0 := ⟨h.1, .inl rfl⟩
theorem half_mod {a b : Nat} (h : b < a) (h0 : b ≠ 0) : 2 * (a % b) ≤ a := by
  have h1 : a % b < b := Nat.mod_lt _ (by omega)
  have h2 : a % b + b * (a / b) = a := Nat.mod_add_div a b
  have h3 : 1 ≤ a / b := by
    rw [Nat.le_div_iff_mul_le (by omega)]
    omega
  have h4 : b * 1 ≤ b * (a / b) := Nat.mul_le_mul_left b h3
  omega
theorem eu_step {t a b : Nat} (h : Eu t a b) (h0 : b ≠ 0) : Eu (t + 1) b (a % b) := by
  obtain ⟨g, q⟩ := h
  refine ⟨by rw [Nat.gcd_comm, ← Nat.gcd_rec, Nat.gcd_comm]; exact g, ?_⟩
  have hm : a % b < b := Nat.mod_lt _ (by omega)
  by_cases hz : a % b = 0
  · exact .inl hz
  refine .inr (.inr ⟨hm, ?_⟩)
  rcases q with q | ⟨q, q2⟩ | ⟨q, q2⟩
  · exact absurd q h0
  · subst q
    by_cases hlt : a < b
    · rw [Nat.mod_eq_of_lt hlt, Nat.mul_comm b a]
      have : (2 : Nat) ^ (0 + 1) = 2 := rfl
      rw [this, show (2 : Nat) ^ 1801 = 2 ^ 1800 * 2 from rfl]
      exact Nat.mul_le_mul_right 2 q2
    · have hba : b < a := by
        rcases Nat.lt_or_ge b a with z | z
        · exact z
        · have : a = b := by omega
          rw [this, Nat.mod_self] at hz
          exact absurd rfl hz
      have h2 := half_mod hba h0
      have e : b * (a % b) * 2 ^ (0 + 1) = b * (2 * (a % b)) := by
        rw [show (2 : Nat) ^ (0 + 1) = 2 from rfl, Nat.mul_assoc, Nat.mul_comm (a % b) 2]
      rw [e]
      refine Nat.le_trans (Nat.mul_le_mul_left b h2) ?_
      rw [Nat.mul_comm b a]
      exact Nat.le_trans q2 (by decide)
  · have h2 := half_mod q h0
    have e : b * (a % b) * 2 ^ (t + 1) = b * (2 * (a % b)) * 2 ^ t := by
      rw [Nat.pow_succ, Nat.mul_comm (2 ^ t) 2, ← Nat.mul_assoc, Nat.mul_assoc b (a % b) 2, Nat.mul_comm (a % b) 2]
    rw [e]
    refine Nat.le_trans (Nat.mul_le_mul_right _ (Nat.mul_le_mul_left b h2)) ?_
    rw [Nat.mul_comm b a]
    exact q2
theorem eu_end {a b : Nat} (h : Eu 2000 a b) : a = 1 := by
  obtain ⟨g, q⟩ := h
  rcases q with q | ⟨q, _⟩ | ⟨q, q2⟩
  · rw [q, Nat.gcd_zero_right] at g
    exact g
  · exact absurd q (by decide)
  · by_cases hb : b = 0
    · rw [hb, Nat.gcd_zero_right] at g
      exact g
    · have h1 : 1 * 2 ^ 2000 ≤ a * b * 2 ^ 2000 := Nat.mul_le_mul_right _ (Nat.mul_pos (by omega) (by omega))
      have h3 : (2 : Nat) ^ 1801 < 1 * 2 ^ 2000 := by decide
      exact absurd (Nat.le_trans h1 q2) (by omega)
theorem eu_start {n m : Int} (r : Red n m) (hn : bd 900 n) (hm : bd 900 m) : Eu 0 n.natAbs m.natAbs := by
  refine ⟨r.2, .inr (.inl ⟨rfl, ?_⟩)⟩
  have := Nat.mul_le_mul (Nat.le_of_lt hn) (Nat.le_of_lt hm)
  rw [← Nat.pow_add] at this
  exact this
end Fu

namespace Fu
open PySem L2
open PyProof.Rows hiding St
open L2H (RoomH roomH_of)
/-- all but the pool stands -/
def SameX (pl : Addr) (H H' : Hp) : Prop := ∀ b o, b ≠ pl → H b = some o → H' b = some o
theorem same_x {H H' : Hp} (pl : Addr) (s : Same H H') : SameX pl H H' := fun b o _ h => s b o h
theorem SameX.trans {pl : Addr} {H H1 H2 : Hp} (s : SameX pl H H1) (t : SameX pl H1 H2) : SameX pl H H2 := fun b o n h => t b o n (s b o n h)
theorem SameX.put {pl : Addr} {H : Hp} {o : HO} : SameX pl H (upd H pl o) := fun b u n h => by
  rw [upd_ne n]
  exact h
theorem SameX.free {pl p : Addr} {H H' : Hp} (s : SameX pl H H') (hp : p ≠ pl) (h : H' p = none) : H p = none := by
  cases e : H p with
  | none => rfl
  | some o =>
    rw [s p o hp e] at h
    cases h
section
variable {P : Program} {w : World} {K : PySem.W.Frag} {mg : Str → Option Value} {base : Heap} {C : Addr}
/-! ### drawn -/
def spDrawn : Sp := fun vs H Q _ => ∃ (pl : Addr) (x y : Int), vs = [.ref pl] ∧ H pl = some (.lst [.int x, .int y]) ∧ 0 ≤ x ∧ 0 ≤ y ∧
  ∀ (H' : Hp) (p : Addr) (x' y' o u : Int), SameX pl H H' → H' pl = some (.lst [.int x', .int y']) → 0 ≤ x' → 0 ≤ y' → H p = none → p ≠ pl → H' p = some (.tup [.int o, .int u]) → o.natAbs ≤ 10 ^ 58 → u ≠ 0 → u.natAbs ≤ 10 ^ 58 → Q (.ref p) H'
abbrev nDrawn : List Str := ["_law_pool_here", "_law_size", "_law_over_it", "_law_under_it"]
theorem scDrawn : FnScope nDrawn ["_law_pool_here"] (defScope s_law_drawn) := ⟨rfl, rfl, rfl, by decide +kernel, rfl, by decide +kernel, by decide +kernel⟩
theorem size_at {r : Int} (h0 : 0 ≤ r) (h1 : r < 4) : ∃ z : Int, atI [V.int 4, V.int 30, V.int (10 ^ (20 : Int).toNat), V.int (10 ^ (58 : Int).toNat)] r = some (.int z) ∧ 4 ≤ z ∧ z ≤ 10 ^ 58 := by
  have : r = 0 ∨ r = 1 ∨ r = 2 ∨ r = 3 := by omega
  rcases this with rfl | rfl | rfl | rfl
  · exact ⟨4, rfl, by decide, by decide⟩
  · exact ⟨30, rfl, by decide, by decide⟩
  · exact ⟨_, rfl, by decide, by decide⟩
  · exact ⟨_, rfl, by decide, by decide⟩
theorem sign_at {r : Int} (h0 : 0 ≤ r) (h1 : r < 2) : ∃ z : Int, atI [V.int 1, V.int (-1)] r = some (.int z) ∧ (z = 1 ∨ z = -1) := by
  have : r = 0 ∨ r = 1 := by omega
  rcases this with rfl | rfl
  · exact ⟨1, rfl, .inl rfl⟩
  · exact ⟨-1, rfl, .inr rfl⟩
theorem log_size {z : Int} (h : z.natAbs ≤ 2 * 10 ^ 58 + 1) : z.natAbs.log2 < 9000 := Nat.lt_of_le_of_lt (log2_mono h) (by decide)
theorem ok_drawn {f ft : Addr} {fd fdt : FuncData} (F : Fun K "_law_drawn" "_law_drawn" s_law_drawn f fd) (Gt : Def P w K mg base CX0 1 "_law_take" ["_law_pool_here", "_law_many"] spTake ft fdt) :
    FnOk P w K mg base CX0 2 f fd ["_law_pool_here"] spDrawn := by
  refine F.ok scDrawn (fun vs H Q E h => ?_) (fun cdv A outer s H vs Q E hr h => ?_)
  · obtain ⟨pl, x, y, rfl, _⟩ := h
    rfl
  · obtain ⟨pl, x, y, rfl, hp, hx, hy, k⟩ := h
    refine ⟨_, pss_cons (ps_set (i := 1) scDrawn.nd rfl (Or.inl rfl) (pe_ix ix_list (pe_lst (pa_cons pe_int (pa_cons pe_int (pa_cons (pe_op op_pow pe_int pe_int) (pa_cons (pe_op op_pow pe_int pe_int) pa_nil))))) (pe_def Gt hr (pa_cons (pv 0) (pa_cons pe_int pa_nil))) (fun _ _ => rfl)))
      (pss_cons (ps_par rfl scDrawn.nd (i := 2) (j := 3) rfl rfl (by decide) rfl rfl (pa_cons (pe_op op_sub (pe_def Gt hr (pa_cons (pv 0) (pa_cons (pe_op op_add (pe_op op_mul pe_int (pv 1)) pe_int) pa_nil))) (pv 1)) (pa_cons (pe_op op_add pe_int (pe_def Gt hr (pa_cons (pv 0) (pa_cons (pv 1) pa_nil)))) pa_nil)) (by rfl))
      (pss_one (ps_ret (pe_tup (pa_cons (pv 2) (pa_cons (pe_op op_mulW (pv 3) (pe_ix ix_list (pe_lst (pa_cons pe_int (pa_cons (pe_un un_neg pe_int) pa_nil))) (pe_def Gt hr (pa_cons (pv 0) (pa_cons pe_int pa_nil))) (fun _ _ => rfl))) pa_nil)))))), ?_⟩
    refine ⟨_, _, rfl, rfl, ⟨by decide, by decide, by decide⟩, _, _, rfl, rfl, ⟨by decide, by decide, by decide⟩, (by show 4 ≤ sizeLine; decide), fun q nq => ?_⟩
    have npq : pl ≠ q := ne_of_none hp nq
    refine ⟨_, rfl, pl, x, y, 4, rfl, (by rw [upd_ne npq]; exact hp), hx, hy, by decide, by decide, fun x1 y1 r hx1 hy1 r0 r1 => ?_⟩
    obtain ⟨z, ez, z4, zM⟩ := size_at r0 r1
    refine ⟨q, _, _, .int z, rfl, rfl, SqL.of (by rw [upd_ne npq.symm]; exact upd_same), ez, ?_⟩
    have zN : z.natAbs ≤ 10 ^ 58 := by omega
    refine ⟨_, rfl, _, rfl, _, _, rfl, rfl, .inl ⟨by decide, by decide⟩, _, _, rfl, rfl, pl, x1, y1, 2 * z + 1, rfl, upd_same, hx1, hy1, by omega, log_size (by omega), fun x2 y2 r2 hx2 hy2 r20 r21 => ?_⟩
    refine ⟨_, rfl, _, _, rfl, rfl, _, rfl, _, rfl, pl, x2, y2, z, rfl, upd_same, hx2, hy2, by omega, log_size (by omega), fun x3 y3 r3 hx3 hy3 r30 r31 => ⟨_, _, rfl, rfl, _, _, rfl, ?_⟩⟩
    refine ⟨_, rfl, _, rfl, 1, rfl, (by show 2 ≤ sizeLine; decide), fun q2 nq2 => ?_⟩
    have npq2 : pl ≠ q2 := ne_of_none upd_same nq2
    refine ⟨_, rfl, pl, x3, y3, 2, rfl, (by rw [upd_ne npq2]; exact upd_same), hx3, hy3, by decide, by decide, fun x4 y4 r4 hx4 hy4 r40 r41 => ?_⟩
    obtain ⟨sg, es, hsg⟩ := sign_at r40 r41
    have b3 : bd 193 (1 + r3) := bd_10_58 (by omega)
    have bs : bd 193 sg := bd_10_58 (by rcases hsg with rfl | rfl <;> decide)
    refine ⟨q2, _, _, .int sg, rfl, rfl, SqL.of (by rw [upd_ne npq2.symm]; exact upd_same), es, _, _, rfl, rfl, small_mul (bd_small b3 (by decide)) (bd_small bs (by decide)), (by show 2 ≤ sizeLine; decide), fun p np => ?_⟩
    have npp : pl ≠ p := ne_of_none upd_same np
    have sx := ((((same_x pl (Same.new nq)).trans SameX.put).trans SameX.put).trans SameX.put).trans ((same_x pl (Same.new (o := .lst [.int 1, .int (-1)]) nq2)).trans (SameX.put (o := .lst [.int x4, .int y4])))
    refine k _ p x4 y4 (r2 - z) ((1 + r3) * sg) (sx.trans (same_x pl (Same.new np))) (by rw [upd_ne npp]; exact upd_same) hx4 hy4 (sx.free npp.symm np) npp.symm upd_same (by omega) ?_ ?_
    · rcases hsg with rfl | rfl <;> omega
    · rcases hsg with rfl | rfl <;> omega
/-! ### is -/
structure RatP (P : Program) (w : World) (K : PySem.W.Frag) (mg : Str → Option Value) (base : Heap) (C pt ft pb fb : Addr) (fdt fdb : FuncData) : Prop where
  t : PropOf K C "top" pt ft
  b : PropOf K C "bottom" pb fb
  gt : FnOk P w K mg base CX0 1 ft fdt ["self"] (getSp C "own_top")
  gb : FnOk P w K mg base CX0 1 fb fdb ["self"] (getSp C "own_bottom")
  bt : Binds K fdt ["self"] []
  bb : Binds K fdb ["self"] []
def spIs (C : Addr) : Sp := fun vs H Q _ => ∃ (a dx : Addr) (n m o u : Int), vs = [.ref a, .int o, .int u] ∧ H a = some (.ins C dx (rf n m)) ∧ Red n m ∧ n * u = o * m ∧ bd 900 n ∧ bd 900 m ∧ small o ∧ small u ∧ Q (.bl true) H
abbrev nIs : List Str := ["_law_ratio", "_law_over_it", "_law_under_it", "_law_one", "_law_other", "_law_turn"]
theorem scIs : FnScope nIs ["_law_ratio", "_law_over_it", "_law_under_it"] (defScope s_law_is) := ⟨rfl, rfl, rfl, by decide +kernel, rfl, by decide +kernel, by decide +kernel⟩
theorem ok_is {f pt ft pb fb : Addr} {fd fdt fdb : FuncData} (F : Fun K "_law_is" "_law_is" s_law_is f fd) (B : Bt mg) (hrange : mg "range" = none) (R : RatC K C) (R2 : RatK K mg C) (G : RatP P w K mg base C pt ft pb fb fdt fdb) :
    FnOk P w K mg base CX0 3 f fd ["_law_ratio", "_law_over_it", "_law_under_it"] (spIs C) := by
  refine F.ok scIs (fun vs H Q E h => ?_) (fun cdv A outer s H vs Q E hr h => ?_)
  · obtain ⟨a, dx, n, m, o, u, rfl, _⟩ := h
    rfl
  · obtain ⟨a, dx, n, m, o, u, rfl, ha, rd, e, bn, bm, so, su, k⟩ := h
    refine ⟨_, pss_cons (ps_if (PW.pt (pw_or (pt_not (pt_val (pe_callB call_isi (by rfl) B.isi (by decide +kernel) (pa_cons (pv 0) (pa_cons (pe_glob (v := .ref C) (by rfl) R2.g rfl) pa_nil)))))
        (pw_or (pt_cmpR op_ne (pe_op op_mulW (pe_prop (by exact (pv 0)) R.ci.cl G.t G.gt hr G.bt .nil pass0 rfl) (pv 2)) (pe_op op_mulW (pv 1) (pe_prop (by exact (pv 0)) R.ci.cl G.b G.gb hr G.bb .nil pass0 rfl)) (nomark _))
        (pw_or1 (pt_cmpR op_lt (pe_prop (by exact (pv 0)) R.ci.cl G.b G.gb hr G.bb .nil pass0 rfl) pe_int (nomark _)))))) (pss_one (ps_ret pe_bl)) pss_nil)
      (pss_cons (ps_par rfl scIs.nd (i := 3) (j := 4) rfl rfl (by decide) rfl rfl (pa_cons (pe_callB call_abs (by rfl) B.abs (by decide +kernel) (pa_cons (pe_prop (by exact (pv 0)) R.ci.cl G.t G.gt hr G.bt .nil pass0 rfl) pa_nil)) (pa_cons (pe_prop (by exact (pv 0)) R.ci.cl G.b G.gb hr G.bb .nil pass0 rfl) pa_nil)) (by rfl))
      (pss_cons (ps_for PassesOwn.never rfl (pi_range1 rfl hrange (pa_cons pe_int pa_nil)) (pg_name (i := 5) scIs.nd rfl (Or.inl rfl))
        (pss_one (ps_if (pt_cmpR op_ne (pv 4) pe_int (nomark _)) (pss_one (ps_par rfl scIs.nd (i := 3) (j := 4) rfl rfl (by decide) rfl rfl (pa_cons (pv 4) (pa_cons (pe_op op_mod (pv 3) (pv 4)) pa_nil)) (by rfl))) pss_nil)))
      (pss_one (ps_ret (pe_cmpR op_eq (pv 3) pe_int (nomark _)))))), ?_⟩
    have at1 : At C H (.rat n m) (.ref a) := ⟨a, dx, rfl, ha⟩
    have sn := bd_small bn (by decide)
    have sm := bd_small bm (by decide)
    have hm := rd.1
    refine ⟨_, rfl, _, _, _, _, _, rfl, .own C, ty_at R.ci at1, kit_rat R2 (.rat n m), _, rfl, if_false_of rfl ?_⟩
    refine ⟨_, rfl, a, dx, _, rfl, ha, a, dx, _, _, rfl, ha, rf_top _ _, _, rfl, _, _, rfl, rfl, small_mul sn su, _, rfl, _, rfl, a, dx, _, rfl, ha, a, dx, _, _, rfl, ha, rf_bot _ _, _, _, rfl, rfl, small_mul so sm, rfl, _, rfl, if_false_of (by show (!decide (V.int (n * u) = V.int (o * m))) = false; rw [e]; simp) ?_⟩
    refine ⟨_, rfl, a, dx, _, rfl, ha, a, dx, _, _, rfl, ha, rf_bot _ _, _, _, rfl, rfl, _, rfl, if_false_of (decide_eq_false (by omega)) ?_⟩
    refine ⟨_, rfl, a, dx, _, rfl, ha, a, dx, _, _, rfl, ha, rf_top _ _, _, rfl, _, rfl, a, dx, _, rfl, ha, a, dx, _, _, rfl, ha, rf_bot _ _, _, _, rfl, ?_⟩
    refine ⟨2000, rfl, by decide, by decide, ?_⟩
    have e1 : (if n < 0 then -n else n) = (n.natAbs : Int) := by split <;> omega
    have e2 : m = (m.natAbs : Int) := by omega
    refine for_range (lo := 0) (n := 2000) (fun t σ H' => H' = H ∧ ∃ (p q : Nat) (s5 : Option V), σ = [some (.ref a), some (.int o), some (.int u), some (.int p), some (.int q), s5] ∧ Eu t p q) ⟨rfl, n.natAbs, m.natAbs, none, ?_, eu_start rd bn bm⟩ ?_ ?_
    · rw [← e1, ← e2]
      rfl
    · rintro t σ H' _ ⟨rfl, p, q, s5, rfl, eu⟩
      refine ⟨_, rfl, rfl, _, rfl, ?_⟩
      by_cases hq : q = 0
      · subst hq
        exact if_false_of (by simp) ⟨rfl, p, 0, _, rfl, eu_zero eu⟩
      · refine if_true_of (by simpa using hq) ⟨_, rfl, _, rfl, _, rfl, _, _, rfl, rfl, (show (0 : Int) < (q : Int) by omega), _, _, rfl, rfl, q, p % q, some (.int (0 + t)), ?_, eu_step eu hq⟩
        rw [Int.natCast_emod]
        rfl
    · rintro σ H' ⟨rfl, p, q, s5, rfl, eu⟩
      have := eu_end eu
      subst this
      exact ⟨_, rfl, rfl, k⟩
end
end Fu

namespace Fu
open PySem L2
open PyProof.Rows hiding St
open L2H (RoomH roomH_of)
/-! ### signs -/
/-- L and R stand to each other as a and b -/
def Alike (L R a b : Int) : Prop := ∃ U P : Int, 0 < U ∧ 0 < P ∧ L * P = U * a ∧ R * P = U * b
theorem alike_lt {L R a b : Int} (h : Alike L R a b) : L < R ↔ a < b := by
  obtain ⟨U, P, hU, hP, h1, h2⟩ := h
  have e1 : L < R ↔ L * P < R * P := ⟨fun z => Int.mul_lt_mul_of_pos_right z hP, fun z => Int.lt_of_mul_lt_mul_right z (Int.le_of_lt hP)⟩
  have e2 : a < b ↔ U * a < U * b := ⟨fun z => Int.mul_lt_mul_of_pos_left z hU, fun z => Int.lt_of_mul_lt_mul_left z (Int.le_of_lt hU)⟩
  rw [e1, e2, h1, h2]
theorem Alike.swap {L R a b : Int} (h : Alike L R a b) : Alike R L b a := by
  obtain ⟨U, P, hU, hP, h1, h2⟩ := h
  exact ⟨U, P, hU, hP, h2, h1⟩
theorem alike_eq {L R a b : Int} (h : Alike L R a b) : L = R ↔ a = b := by
  have h1 := alike_lt h
  have h2 := alike_lt h.swap
  omega
theorem alike_le {L R a b : Int} (h : Alike L R a b) : L ≤ R ↔ a ≤ b := by
  have h1 := alike_lt h.swap
  omega
/-- the two rows of truths -/
def rowN (a b : Int) : List D := [.bl (R_eq a b), .bl (R_ne a b), .bl (R_lt a b), .bl (R_le a b), .bl (R_gt a b), .bl (R_ge a b)]
def rowI (L R : Int) : List D := [.bl (decide (V.int L = V.int R)), .bl (!decide (V.int L = V.int R)), .bl (decide (L < R)), .bl (decide (L ≤ R)), .bl (decide (R < L)), .bl (decide (R ≤ L))]
theorem rows_eq {L R a b : Int} (h : Alike L R a b) : rowI L R = rowN a b := by
  have e1 : decide (V.int L = V.int R) = decide (a = b) := by
    rw [Bool.eq_iff_iff, decide_eq_true_eq, decide_eq_true_eq, V.int.injEq]
    exact alike_eq h
  have e2 : decide (L < R) = decide (a < b) := decide_eq_decide.mpr (alike_lt h)
  have e3 : decide (L ≤ R) = decide (a ≤ b) := decide_eq_decide.mpr (alike_le h)
  have e4 : decide (R < L) = decide (b < a) := decide_eq_decide.mpr (alike_lt h.swap)
  have e5 : decide (R ≤ L) = decide (b ≤ a) := decide_eq_decide.mpr (alike_le h.swap)
  unfold rowI rowN R_eq R_ne R_lt R_le R_gt R_ge
  rw [e1, e2, e3, e4, e5]
theorem shw_bls : ∀ b1 b2 b3 b4 b5 b6 : Bool, shw (.lst [.bl b1, .bl b2, .bl b3, .bl b4, .bl b5, .bl b6]) = true := by decide +kernel
/-- first / second as pairs of ints: n1/m1 is o1/u1 and n2/m2 is o2/u2 -/
theorem alike_of {n m i j o1 u1 o2 u2 : Int} (hm : 0 < m) (hj : 0 < j) (e1 : n * u1 = o1 * m) (e2 : i * u2 = o2 * j) (h : 0 < u1 * u2) : Alike (o1 * u2) (o2 * u1) (n * j) (i * m) := by
  refine ⟨u1 * u2, m * j, h, Int.mul_pos hm hj, ?_, ?_⟩
  · have : o1 * u2 * (m * j) = (o1 * m) * (u2 * j) := by simp only [Int.mul_assoc, Int.mul_comm, Int.mul_left_comm]
    rw [this, ← e1]
    simp only [Int.mul_assoc, Int.mul_comm, Int.mul_left_comm]
  · have : o2 * u1 * (m * j) = (o2 * j) * (u1 * m) := by simp only [Int.mul_assoc, Int.mul_comm, Int.mul_left_comm]
    rw [this, ← e2]
    simp only [Int.mul_assoc, Int.mul_comm, Int.mul_left_comm]
theorem alike_neg {n m i j o1 u1 o2 u2 : Int} (hm : 0 < m) (hj : 0 < j) (e1 : n * u1 = o1 * m) (e2 : i * u2 = o2 * j) (h : u1 * u2 < 0) : Alike (-(o1 * u2)) (-(o2 * u1)) (n * j) (i * m) := by
  have e1' : n * (-u1) = (-o1) * m := by rw [Int.mul_neg, Int.neg_mul, e1]
  have h' : 0 < (-u1) * u2 := by rw [Int.neg_mul]; omega
  have q := alike_of hm hj e1' e2 h'
  rw [Int.neg_mul, Int.mul_neg] at q
  exact q
/-- the pair at t is a fraction of the number n / m -/
structure Pr (H : Hp) (t : Addr) (n m o u : Int) : Prop where
  h : H t = some (.tup [.int o, .int u])
  e : n * u = o * m
  u0 : u ≠ 0
  bo : bd 200 o
  bu : bd 200 u
section
variable {P : Program} {w : World} {K : PySem.W.Frag} {mg : Str → Option Value} {base : Heap} {C : Addr}
def spSigns (C : Addr) : Sp := fun vs H Q _ => ∃ (x y : V) (t1 t2 : Addr) (d e : D) (n m i j o1 u1 o2 u2 : Int), vs = [x, y, .ref t1, .ref t2] ∧ Nm C H x d n m ∧ Nm C H y e i j ∧ (isRt d || isRt e) = true ∧ Pr H t1 n m o1 u1 ∧ Pr H t2 i j o2 u2 ∧ ∀ H', Same H H' → Q (.bl true) H'
abbrev nSigns : List Str := ["_law_one", "_law_other", "_law_first", "_law_second", "_law_left", "_law_right", "_law_due", "_law_found"]
theorem scSigns : FnScope nSigns ["_law_one", "_law_other", "_law_first", "_law_second"] (defScope s_law_signs_right) := ⟨rfl, rfl, rfl, by decide +kernel, rfl, by decide +kernel, by decide +kernel⟩
theorem ok_signs {f fR : Addr} {fd fdR : FuncData} (F : Fun K "_law_signs_right" "_law_signs_right" s_law_signs_right f fd) (hrepr : mg "repr" = none) (O : RatO P w K mg base C) (T : ReprC P w K mg base C fR fdR (spRepr C)) :
    FnG P w K mg base CX0 5 f fd ["_law_one", "_law_other", "_law_first", "_law_second"] (spSigns C) := by
  refine Fun.okG F scSigns (fun vs H Q E h => ?_) (fun cdv A outer s H vs Q E hr h => ?_)
  · obtain ⟨x, y, t1, t2, d, e, n, m, i, j, o1, u1, o2, u2, rfl, _⟩ := h
    rfl
  · obtain ⟨x, y, t1, t2, d, e, n, m, i, j, o1, u1, o2, u2, rfl, hx, hy, hne, h1, h2, k⟩ := h
    have hr3 : Room 3 _ := hr.r.mono (show 3 ≤ 4 by decide)
    have hr4 : Room 4 _ := hr.r
    have hrH : RoomH 2 _ := (roomH_of hr.r).mono (show 2 ≤ 4 by decide)
    refine ⟨_, PSs.nox (pss_cons (ps_par rfl scSigns.nd (i := 4) (j := 5) rfl rfl (by decide) rfl rfl (pa_cons (pe_op op_mulW (pe_ix ix_tup (pv 2) pe_int (fun _ _ => rfl)) (pe_ix ix_tup (pv 3) pe_int (fun _ _ => rfl))) (pa_cons (pe_op op_mulW (pe_ix ix_tup (pv 3) pe_int (fun _ _ => rfl)) (pe_ix ix_tup (pv 2) pe_int (fun _ _ => rfl))) pa_nil)) (by rfl))
      (Evl.pss_cut (ps_if (pt_cmpR op_lt (pe_op op_mulW (pe_ix ix_tup (pv 2) pe_int (fun _ _ => rfl)) (pe_ix ix_tup (pv 3) pe_int (fun _ _ => rfl))) pe_int (nomark _)) (pss_one (ps_par rfl scSigns.nd (i := 4) (j := 5) rfl rfl (by decide) rfl rfl (pa_cons (pe_un un_neg (pv 4)) (pa_cons (pe_un un_neg (pv 5)) pa_nil)) (by rfl))) pss_nil)
      (pss_cons (ps_set (i := 6) scSigns.nd rfl (Or.inl rfl) (pe_lst (pa_cons (pe_cmpR op_eq (pv 4) (pv 5) (nomark _)) (pa_cons (pe_cmpR op_ne (pv 4) (pv 5) (nomark _)) (pa_cons (pe_cmpR op_lt (pv 4) (pv 5) (nomark _)) (pa_cons (pe_cmpR op_le (pv 4) (pv 5) (nomark _)) (pa_cons (pe_cmpR op_gt (pv 4) (pv 5) (nomark _)) (pa_cons (pe_cmpR op_ge (pv 4) (pv 5) (nomark _)) pa_nil))))))))
      (pss_cons (ps_set (i := 7) scSigns.nd rfl (Or.inl rfl) (pe_lst (pa_cons (pe_cmpR (op_numEq O hr3) (pv 0) (pv 1) (nomark _)) (pa_cons (pe_cmpR (op_numNe O hr4) (pv 0) (pv 1) (nomark _)) (pa_cons (pe_cmpR (op_numLt O hr3) (pv 0) (pv 1) (nomark _)) (pa_cons (pe_cmpR (op_numLe O hr3) (pv 0) (pv 1) (nomark _)) (pa_cons (pe_cmpR (op_numGt O hr3) (pv 0) (pv 1) (nomark _)) (pa_cons (pe_cmpR (op_numGe O hr3) (pv 0) (pv 1) (nomark _)) pa_nil))))))))
      (pss_one (ps_ret (pe_cmpR op_eq (pe_callB (call_reprD T hr.g hrH) (by rfl) hrepr (by decide +kernel) (pa_cons (pv 7) pa_nil)) (pe_callB (call_reprD T hr.g hrH) (by rfl) hrepr (by decide +kernel) (pa_cons (pv 6) pa_nil)) (nomark _)))))))), ?_⟩
    have s1 : ∀ {t : Addr} {n m o u : Int}, Pr H t n m o u → small o ∧ small u := fun h => ⟨bd_small h.bo (by decide), bd_small h.bu (by decide)⟩
    have ix0 : ∀ a b : Int, atI [V.int a, V.int b] 0 = some (.int a) := fun _ _ => rfl
    have ix1 : ∀ a b : Int, atI [V.int a, V.int b] 1 = some (.int b) := fun _ _ => rfl
    refine ⟨_, rfl, t1, _, _, _, rfl, rfl, SqT.of h1.h, ix0 _ _, _, rfl, t2, _, _, _, rfl, rfl, SqT.of h2.h, ix1 _ _, _, _, rfl, rfl, small_mul (s1 h1).1 (s1 h2).2,
      _, rfl, t2, _, _, _, rfl, rfl, SqT.of h2.h, ix0 _ _, _, rfl, t1, _, _, _, rfl, rfl, SqT.of h1.h, ix1 _ _, _, _, rfl, rfl, small_mul (s1 h2).1 (s1 h1).2, _, _, rfl, ?_⟩
    refine ⟨fun σ' H' => H' = H ∧ ∃ L R : Int, σ' = [some x, some y, some (.ref t1), some (.ref t2), some (.int L), some (.int R), none, none] ∧ Alike L R (n * j) (i * m), ?_, ?_⟩
    · refine ⟨_, rfl, t1, _, _, _, rfl, rfl, SqT.of h1.h, ix1 _ _, _, rfl, t2, _, _, _, rfl, rfl, SqT.of h2.h, ix1 _ _, _, _, rfl, rfl, small_mul (s1 h1).2 (s1 h2).2, _, _, rfl, rfl, _, rfl, ?_⟩
      by_cases hu : u1 * u2 < 0
      · exact if_true_of (decide_eq_true hu) ⟨_, rfl, _, rfl, _, rfl, _, rfl, _, _, rfl, rfl, _, _, rfl, alike_neg hx.r.1 hy.r.1 h1.e h2.e hu⟩
      · have hz : u1 * u2 ≠ 0 := Int.mul_ne_zero h1.u0 h2.u0
        exact if_false_of (decide_eq_false hu) ⟨rfl, _, _, rfl, alike_of hx.r.1 hy.r.1 h1.e h2.e (by omega)⟩
    · rintro _ _ ⟨rfl, L, R, rfl, al⟩
      refine ⟨_, rfl, _, rfl, rfl, _, rfl, _, rfl, rfl, _, rfl, _, rfl, _, _, rfl, rfl, _, rfl, _, rfl, _, _, rfl, rfl, _, rfl, _, rfl, _, _, rfl, rfl, _, rfl, _, rfl, _, _, rfl, rfl, (by show 6 ≤ sizeLine; decide), fun p1 n1 => ?_⟩
      have w1 := Same.new (o := .lst [.bl (decide (V.int L = V.int R)), .bl (!decide (V.int L = V.int R)), .bl (decide (L < R)), .bl (decide (L ≤ R)), .bl (decide (R < L)), .bl (decide (R ≤ L))]) n1
      refine ⟨_, rfl, _, rfl, d, e, n, m, i, j, hx.ex w1, hy.ex w1, hne, fun H1 v1 => ?_⟩
      have w2 := w1.trans v1
      refine ⟨_, rfl, _, rfl, d, e, n, m, i, j, hx.ex w2, hy.ex w2, hne, fun H2 v2 => ?_⟩
      have w3 := w2.trans v2
      refine ⟨_, rfl, _, rfl, d, e, n, m, i, j, hx.ex w3, hy.ex w3, hne, fun H3 v3 => ?_⟩
      have w4 := w3.trans v3
      refine ⟨_, rfl, _, rfl, d, e, n, m, i, j, hx.ex w4, hy.ex w4, hne, fun H4 v4 => ?_⟩
      have w5 := w4.trans v4
      refine ⟨_, rfl, _, rfl, d, e, n, m, i, j, hx.ex w5, hy.ex w5, hne, fun H5 v5 => ?_⟩
      have w6 := w5.trans v5
      refine ⟨_, rfl, _, rfl, d, e, n, m, i, j, hx.ex w6, hy.ex w6, hne, fun H6 v6 => ?_⟩
      have w7 := w6.trans v6
      refine ⟨(by show 6 ≤ sizeLine; decide), fun p2 n2 => ?_⟩
      have w8 := Same.new (o := .lst [.bl (R_eq (n * j) (i * m)), .bl (R_ne (n * j) (i * m)), .bl (R_lt (n * j) (i * m)), .bl (R_le (n * j) (i * m)), .bl (R_gt (n * j) (i * m)), .bl (R_ge (n * j) (i * m))]) n2
      have a2 : At C (upd H6 p2 (.lst [.bl (R_eq (n * j) (i * m)), .bl (R_ne (n * j) (i * m)), .bl (R_lt (n * j) (i * m)), .bl (R_le (n * j) (i * m)), .bl (R_gt (n * j) (i * m)), .bl (R_ge (n * j) (i * m))])) (.lst (rowN (n * j) (i * m))) (.ref p2) :=
        ⟨p2, _, rfl, upd_same, _, _, rfl, rfl, _, _, rfl, rfl, _, _, rfl, rfl, _, _, rfl, rfl, _, _, rfl, rfl, _, _, rfl, rfl, rfl⟩
      have a1 : At C (upd H6 p2 (.lst [.bl (R_eq (n * j) (i * m)), .bl (R_ne (n * j) (i * m)), .bl (R_lt (n * j) (i * m)), .bl (R_le (n * j) (i * m)), .bl (R_gt (n * j) (i * m)), .bl (R_ge (n * j) (i * m))])) (.lst (rowI L R)) (.ref p1) :=
        ⟨p1, _, rfl, w8 _ _ (v6 _ _ (v5 _ _ (v4 _ _ (v3 _ _ (v2 _ _ (v1 _ _ upd_same)))))), _, _, rfl, rfl, _, _, rfl, rfl, _, _, rfl, rfl, _, _, rfl, rfl, _, _, rfl, rfl, _, _, rfl, rfl, rfl⟩
      rw [rows_eq al] at a1
      refine ⟨_, rfl, _, _, rfl, a2, shw_bls _ _ _ _ _ _, _, rfl, _, _, rfl, a1, shw_bls _ _ _ _ _ _, rfl, ?_⟩
      rw [decide_eq_true rfl]
      exact k _ (w7.trans w8)
end
end Fu

namespace Fu
open PySem L2
open PyProof.Rows hiding St
open L2H (RoomH roomH_of)
theorem cross_add {n m i j o1 u1 o2 u2 p q : Int} (hm : 0 < m) (hj : 0 < j) (h1 : n * u1 = o1 * m) (h2 : i * u2 = o2 * j) (h3 : p * (m * j) = F_add n m i j * q) : p * (u1 * u2) = (o1 * u2 + o2 * u1) * q := by
  refine Int.eq_of_mul_eq_mul_right (mul_ne hm hj) ?_
  unfold F_add at h3
  grind
theorem cross_sub {n m i j o1 u1 o2 u2 p q : Int} (hm : 0 < m) (hj : 0 < j) (h1 : n * u1 = o1 * m) (h2 : i * u2 = o2 * j) (h3 : p * (m * j) = F_sub n m i j * q) : p * (u1 * u2) = (o1 * u2 - o2 * u1) * q := by
  refine Int.eq_of_mul_eq_mul_right (mul_ne hm hj) ?_
  unfold F_sub at h3
  grind
theorem cross_mul {n m i j o1 u1 o2 u2 p q : Int} (hm : 0 < m) (hj : 0 < j) (h1 : n * u1 = o1 * m) (h2 : i * u2 = o2 * j) (h3 : p * (m * j) = F_mul n m i j * q) : p * (u1 * u2) = (o1 * o2) * q := by
  refine Int.eq_of_mul_eq_mul_right (mul_ne hm hj) ?_
  unfold F_mul at h3
  grind
section
variable {P : Program} {w : World} {K : PySem.W.Frag} {mg : Str → Option Value} {base : Heap} {C : Addr}
/-! ### a pair -/
def spPair (C : Addr) : Sp := fun vs H Q _ => ∃ (x y : V) (t1 t2 : Addr) (d e : D) (n m i j o1 u1 o2 u2 : Int), vs = [x, y, .ref t1, .ref t2] ∧ Nm C H x d n m ∧ Nm C H y e i j ∧ (isRt d || isRt e) = true ∧ Pr H t1 n m o1 u1 ∧ Pr H t2 i j o2 u2 ∧ bd 200 n ∧ bd 200 m ∧ bd 200 i ∧ bd 200 j ∧ ∀ H', Same H H' → Q (.bl true) H'
abbrev nPair : List Str := ["_law_one", "_law_other", "_law_first", "_law_second", "_law_over_it", "_law_under_it", "_law_far", "_law_under"]
theorem scPair : FnScope nPair ["_law_one", "_law_other", "_law_first", "_law_second"] (defScope s_law_pair_right) := ⟨rfl, rfl, rfl, by decide +kernel, rfl, by decide +kernel, by decide +kernel⟩
theorem Pr.ex {H H' : Hp} {t : Addr} {n m o u : Int} (h : Pr H t n m o u) (s : Same H H') : Pr H' t n m o u := ⟨s _ _ h.h, h.e, h.u0, h.bo, h.bu⟩
theorem ok_pair {f fi fs : Addr} {fd fdi fds : FuncData} (F : Fun K "_law_pair_right" "_law_pair_right" s_law_pair_right f fd) (O : RatO P w K mg base C) (Gi : Def P w K mg base CX0 3 "_law_is" ["_law_ratio", "_law_over_it", "_law_under_it"] (spIs C) fi fdi)
    (Gs : FnG P w K mg base CX0 5 fs fds ["_law_one", "_law_other", "_law_first", "_law_second"] (spSigns C)) (gs : mg "_law_signs_right" = some (.ref fs)) (ks : PySem.W.keepIn K (.ref fs) = true) (bs : Binds K fds ["_law_one", "_law_other", "_law_first", "_law_second"] []) :
    FnG P w K mg base CX0 7 f fd ["_law_one", "_law_other", "_law_first", "_law_second"] (spPair C) := by
  refine Fun.okG F scPair (fun vs H Q E h => ?_) (fun cdv A outer s H vs Q E hr h => ?_)
  · obtain ⟨x, y, t1, t2, d, e, n, m, i, j, o1, u1, o2, u2, rfl, _⟩ := h
    rfl
  · obtain ⟨x, y, t1, t2, d, e, n, m, i, j, o1, u1, o2, u2, rfl, hx, hy, hne, h1, h2, bn, bm, bi, bj, k⟩ := h
    have hr3 : Room 3 _ := hr.r.mono (show 3 ≤ 6 by decide)
    have hr6 : Room 6 _ := hr.r
    have hr5 : RoomG 5 _ := hr.mono (show 5 ≤ 6 by decide)
    refine ⟨_, PSs.nox (pss_cons (ps_asg (pe_tup (pa_cons (pe_ix ix_tup (pv 2) pe_int (fun _ _ => rfl)) (pa_cons (pe_ix ix_tup (pv 2) pe_int (fun _ _ => rfl)) (pa_cons (pe_ix ix_tup (pv 3) pe_int (fun _ _ => rfl)) (pa_cons (pe_ix ix_tup (pv 3) pe_int (fun _ _ => rfl)) pa_nil)))))
        (pg_tup rfl (pgs_cons (pg_name (i := 4) scPair.nd rfl (.inl rfl)) (pgs_cons (pg_name (i := 5) scPair.nd rfl (.inl rfl)) (pgs_cons (pg_name (i := 6) scPair.nd rfl (.inl rfl)) (pgs_cons (pg_name (i := 7) scPair.nd rfl (.inl rfl)) pgs_nil))))))
      (pss_cons (ps_if (pt_not (pt_val (pe_def Gi hr3 (pa_cons (pe_op (op_numAdd O hr6) (pv 0) (pv 1)) (pa_cons (pe_op op_add (pe_op op_mulW (pv 4) (pv 7)) (pe_op op_mulW (pv 6) (pv 5))) (pa_cons (pe_op op_mulW (pv 5) (pv 7)) pa_nil)))))) (pss_one (ps_ret pe_bl)) pss_nil)
      (pss_cons (ps_if (pt_not (pt_val (pe_def Gi hr3 (pa_cons (pe_op (op_numSub O hr6) (pv 0) (pv 1)) (pa_cons (pe_op op_sub (pe_op op_mulW (pv 4) (pv 7)) (pe_op op_mulW (pv 6) (pv 5))) (pa_cons (pe_op op_mulW (pv 5) (pv 7)) pa_nil)))))) (pss_one (ps_ret pe_bl)) pss_nil)
      (pss_cons (ps_if (pt_not (pt_val (pe_def Gi hr3 (pa_cons (pe_op (op_numMul O hr6) (pv 0) (pv 1)) (pa_cons (pe_op op_mulW (pv 4) (pv 6)) (pa_cons (pe_op op_mulW (pv 5) (pv 7)) pa_nil)))))) (pss_one (ps_ret pe_bl)) pss_nil)
      (pss_one (ps_ret (pe_callG Gs hr5 gs ks bs (pa_cons (pv 0) (pa_cons (pv 1) (pa_cons (pv 2) (pa_cons (pv 3) pa_nil))))))))))), ?_⟩
    have ix0 : ∀ a b : Int, atI [V.int a, V.int b] 0 = some (.int a) := fun _ _ => rfl
    have ix1 : ∀ a b : Int, atI [V.int a, V.int b] 1 = some (.int b) := fun _ _ => rfl
    have so1 := bd_small h1.bo (by decide)
    have su1 := bd_small h1.bu (by decide)
    have so2 := bd_small h2.bo (by decide)
    have su2 := bd_small h2.bu (by decide)
    have hm := hx.r.1
    have hj := hy.r.1
    refine ⟨_, rfl, t1, _, _, _, rfl, rfl, SqT.of h1.h, ix0 _ _, _, rfl, t1, _, _, _, rfl, rfl, SqT.of h1.h, ix1 _ _, _, rfl, t2, _, _, _, rfl, rfl, SqT.of h2.h, ix0 _ _, _, rfl, t2, _, _, _, rfl, rfl, SqT.of h2.h, ix1 _ _, (by show 4 ≤ sizeLine; decide), fun q nq => ?_⟩
    have w0 := Same.new (o := .tup [.int o1, .int u1, .int o2, .int u2]) nq
    refine ⟨q, _, rfl, SqT.of upd_same, rfl, _, _, rfl, _, _, rfl, _, _, rfl, _, _, rfl, rfl, ?_⟩
    have bD : bd 400 (m * j) := bd_mul bm bj
    have bU : small (u1 * u2) := bd_small (bd_mul h1.bu h2.bu) (by decide)
    refine ⟨_, rfl, _, rfl, d, e, n, m, i, j, hx.ex w0, hy.ex w0, hne, fun p1 dx1 H1 n1 m1 v1 np1 hp1 rd1 e1 l1 k1 => ?_⟩
    have b1 : bd 401 (F_add n m i j) := bd_add (bd_mul bn bj) (bd_mul bi bm)
    refine ⟨_, rfl, _, rfl, _, _, rfl, rfl, small_mul so1 su2, _, rfl, _, rfl, _, _, rfl, rfl, small_mul so2 su1, _, _, rfl, rfl, _, rfl, _, rfl, _, _, rfl, rfl, small_mul su1 su2, p1, dx1, n1, m1, _, _, rfl, hp1, rd1, cross_add hm hj h1.e h2.e e1, bd_mono (bd_le b1 l1) (by decide), bd_mono (bd_le bD k1) (by decide), bd_small (bd_add (bd_mul h1.bo h2.bu) (bd_mul h2.bo h1.bu)) (by decide), bU, _, rfl, iteF ?_⟩
    have w1 := w0.trans v1
    refine ⟨_, rfl, _, rfl, d, e, n, m, i, j, hx.ex w1, hy.ex w1, hne, fun p2 dx2 H2 n2 m2 v2 np2 hp2 rd2 e2 l2 k2 => ?_⟩
    have b2 : bd 401 (F_sub n m i j) := bd_sub (bd_mul bn bj) (bd_mul bi bm)
    refine ⟨_, rfl, _, rfl, _, _, rfl, rfl, small_mul so1 su2, _, rfl, _, rfl, _, _, rfl, rfl, small_mul so2 su1, _, _, rfl, rfl, _, rfl, _, rfl, _, _, rfl, rfl, small_mul su1 su2, p2, dx2, n2, m2, _, _, rfl, hp2, rd2, cross_sub hm hj h1.e h2.e e2, bd_mono (bd_le b2 l2) (by decide), bd_mono (bd_le bD k2) (by decide), bd_small (bd_sub (bd_mul h1.bo h2.bu) (bd_mul h2.bo h1.bu)) (by decide), bU, _, rfl, iteF ?_⟩
    have w2 := w1.trans v2
    refine ⟨_, rfl, _, rfl, d, e, n, m, i, j, hx.ex w2, hy.ex w2, hne, fun p3 dx3 H3 n3 m3 v3 np3 hp3 rd3 e3 l3 k3 => ?_⟩
    have b3 : bd 400 (F_mul n m i j) := bd_mul bn bi
    refine ⟨_, rfl, _, rfl, _, _, rfl, rfl, small_mul so1 so2, _, rfl, _, rfl, _, _, rfl, rfl, small_mul su1 su2, p3, dx3, n3, m3, _, _, rfl, hp3, rd3, cross_mul hm hj h1.e h2.e e3, bd_mono (bd_le b3 l3) (by decide), bd_mono (bd_le bD k3) (by decide), bd_small (bd_mul h1.bo h2.bo) (by decide), bU, _, rfl, iteF ?_⟩
    have w3 := w2.trans v3
    exact ⟨_, rfl, _, rfl, _, rfl, _, rfl, x, y, t1, t2, d, e, n, m, i, j, o1, u1, o2, u2, rfl, hx.ex w3, hy.ex w3, hne, h1.ex w3, h2.ex w3, fun H' s' => k H' (w3.trans s')⟩
end
end Fu

namespace Fu
open PySem L2
open PyProof.Rows hiding St
open L2H (RoomH roomH_of)
theorem fdiv_pos {n m o u : Int} (hm : 0 < m) (hu : 0 < u) (e : n * u = o * m) : n.fdiv m = o.fdiv u := by
  have h1 : (u * n).fdiv (u * m) = n.fdiv m := Int.mul_fdiv_mul_of_pos n m hu
  have h2 : (m * o).fdiv (m * u) = o.fdiv u := Int.mul_fdiv_mul_of_pos o u hm
  rw [← h1, ← h2, Int.mul_comm u n, e, Int.mul_comm u m, Int.mul_comm o m]
theorem fdiv_eqv {n m o u : Int} (hm : 0 < m) (hu : u ≠ 0) (e : n * u = o * m) : n.fdiv m = o.fdiv u := by
  by_cases h : 0 < u
  · exact fdiv_pos hm h e
  · have h1 : n.fdiv m = (-o).fdiv (-u) := fdiv_pos hm (by omega) (by rw [Int.mul_neg, Int.neg_mul, e])
    rw [h1, Int.neg_fdiv_neg]
theorem zero_iff {n m o u : Int} (hm : 0 < m) (hu : u ≠ 0) (e : n * u = o * m) : n = 0 ↔ o = 0 := by
  constructor
  · intro z
    rw [z, Int.zero_mul] at e
    rcases Int.mul_eq_zero.mp e.symm with q | q
    · exact q
    · omega
  · intro z
    rw [z, Int.zero_mul] at e
    rcases Int.mul_eq_zero.mp e with q | q
    · exact q
    · exact absurd q hu
theorem abs_cross {n m o u : Int} (hm : 0 < m) (e : n * u = o * m) : U_abs n * (if u < 0 then -u else u) = (if o < 0 then -o else o) * m := by
  have h : ∀ x : Int, (if x < 0 then -x else x) = (x.natAbs : Int) := fun x => by split <;> omega
  unfold U_abs
  rw [h, h, h]
  have hm' : m = (m.natAbs : Int) := by omega
  rw [hm', ← Int.natCast_mul, ← Int.natCast_mul, ← Int.natAbs_mul, ← Int.natAbs_mul, e]
section
variable {P : Program} {w : World} {K : PySem.W.Frag} {mg : Str → Option Value} {base : Heap} {C : Addr}
def spOne (C : Addr) : Sp := fun vs H Q _ => ∃ (a dx t : Addr) (n m o u : Int), vs = [.ref a, .ref t] ∧ H a = some (.ins C dx (rf n m)) ∧ Red n m ∧ Pr H t n m o u ∧ bd 200 n ∧ bd 200 m ∧ ∀ H', Same H H' → Q (.bl true) H'
abbrev nOne : List Str := ["_law_one", "_law_first", "_law_over_it", "_law_under_it", "_law_text"]
theorem scOne : FnScope nOne ["_law_one", "_law_first"] (defScope s_law_one_right) := ⟨rfl, rfl, rfl, by decide +kernel, rfl, by decide +kernel, by decide +kernel⟩
theorem bd_log {k : Nat} {x : Int} (h : bd k x) (hk : k ≤ 1900) (h0 : 0 < k) : x.natAbs.log2 < 1900 := by
  by_cases e : x.natAbs = 0
  · rw [e]
    decide
  · exact Nat.lt_of_lt_of_le ((Nat.log2_lt e).mpr h) hk
theorem ok_one {f fi fR pt ft pb fb : Addr} {fd fdi fdR fdt fdb : FuncData} (F : Fun K "_law_one_right" "_law_one_right" s_law_one_right f fd) (B : Bt mg) (hrepr : mg "repr" = none) (hstr : mg "str" = none) (O : RatO P w K mg base C) (G : RatP P w K mg base C pt ft pb fb fdt fdb)
    (Gi : Def P w K mg base CX0 3 "_law_is" ["_law_ratio", "_law_over_it", "_law_under_it"] (spIs C) fi fdi) (T : ReprC P w K mg base C fR fdR (spRepr C)) :
    FnG P w K mg base CX0 7 f fd ["_law_one", "_law_first"] (spOne C) := by
  obtain ⟨fN, fdN, FN, ON, bN, _⟩ := O.neg
  obtain ⟨fA, fdA, FA, OA, bA, _⟩ := O.abs
  obtain ⟨fB, fdB, FB, OB, bB, _⟩ := O.bool
  obtain ⟨fF, fdF, FF, OF, bF, kF⟩ := O.floor
  obtain ⟨fS, fdS, FS, OS, bS, _⟩ := O.str
  refine Fun.okG F scOne (fun vs H Q E h => ?_) (fun cdv A outer s H vs Q E hr h => ?_)
  · obtain ⟨a, dx, t, n, m, o, u, rfl, _⟩ := h
    rfl
  · obtain ⟨a, dx, t, n, m, o, u, rfl, ha, rd, h1, bn, bm, k⟩ := h
    have hr1 : Room 1 _ := hr.r.mono (show 1 ≤ 6 by decide)
    have hr2 : Room 2 _ := hr.r.mono (show 2 ≤ 6 by decide)
    have hr3 : Room 3 _ := hr.r.mono (show 3 ≤ 6 by decide)
    have hr5 : Room 5 _ := hr.r.mono (show 5 ≤ 6 by decide)
    have hr6 : Room 6 _ := hr.r
    have hrH : RoomH 2 _ := (roomH_of hr.r).mono (show 2 ≤ 6 by decide)
    refine ⟨_, PSs.nox (pss_cons (ps_asg (pv 1) (pg_tup rfl (pgs_cons (pg_name (i := 2) scOne.nd rfl (.inl rfl)) (pgs_cons (pg_name (i := 3) scOne.nd rfl (.inl rfl)) pgs_nil))))
      (pss_cons (ps_if (PW.pt (pw_or (pt_not (pt_val (pe_def Gi hr3 (pa_cons (pv 0) (pa_cons (pv 2) (pa_cons (pv 3) pa_nil)))))) (pw_or1 (pt_not (pt_val (pe_def Gi hr3 (pa_cons (pe_un (un_negO FN hr5 ON bN) (pv 0)) (pa_cons (pe_un un_neg (pv 2)) (pa_cons (pv 3) pa_nil))))))))) (pss_one (ps_ret pe_bl)) pss_nil)
      (pss_cons (ps_if (pt_not (pt_val (pe_def Gi hr3 (pa_cons (pe_callB (call_absO FA hr6 OA bA) (by rfl) B.abs (by decide +kernel) (pa_cons (pv 0) pa_nil)) (pa_cons (pe_callB call_abs (by rfl) B.abs (by decide +kernel) (pa_cons (pv 2) pa_nil)) (pa_cons (pe_callB call_abs (by rfl) B.abs (by decide +kernel) (pa_cons (pv 3) pa_nil)) pa_nil)))))) (pss_one (ps_ret pe_bl)) pss_nil)
      (pss_cons (ps_if (PW.pt (pw_or (pt_cmpR op_ne (pe_callTy (call_boolO FB hr3 OB bB) (by rfl) B.bool (by decide +kernel) (pa_cons (pv 0) pa_nil)) (pe_cmpR op_ne (pv 2) pe_int (nomark _)) (nomark _)) (pw_or1 (pt_cmpR op_ne (pe_meth0 (pv 0) O.r.ci.cl ⟨OF.at_, OF.fn, kF⟩ FF hr1 bF .nil pass0) (pe_op op_fdivB (pv 2) (pv 3)) (nomark _))))) (pss_one (ps_ret pe_bl)) pss_nil)
      (Evl.pss_cut (ps_set (i := 4) scOne.nd rfl (Or.inl rfl) (pe_ifExp (pt_cmpR op_eq (pe_prop (by exact (pv 0)) O.r.ci.cl G.b G.gb hr2 G.bb .nil pass0 rfl) pe_int (nomark _)) (pe_callTy call_str_int (by rfl) hstr (by decide +kernel) (pa_cons (pe_prop (by exact (pv 0)) O.r.ci.cl G.t G.gt hr2 G.bt .nil pass0 rfl) pa_nil))
          (pe_op op_add_str (pe_op op_add_str (pe_callTy call_str_int (by rfl) hstr (by decide +kernel) (pa_cons (pe_prop (by exact (pv 0)) O.r.ci.cl G.t G.gt hr2 G.bt .nil pass0 rfl) pa_nil)) pe_str) (pe_callTy call_str_int (by rfl) hstr (by decide +kernel) (pa_cons (pe_prop (by exact (pv 0)) O.r.ci.cl G.b G.gb hr2 G.bb .nil pass0 rfl) pa_nil)))))
      (pss_one (ps_ret (pe_and (pe_cmpR op_eq (pe_callTy (call_strO FS hr3 OS bS) (by rfl) hstr (by decide +kernel) (pa_cons (pv 0) pa_nil)) (pv 4) (nomark _)) (pe_one (pe_cmpR op_eq (pe_callB (call_reprD T hr.g hrH) (by rfl) hrepr (by decide +kernel) (pa_cons (pv 0) pa_nil)) (pv 4) (nomark _))))))))))), ?_⟩
    have hm := rd.1
    have sn := bd_small bn (by decide)
    have sm := bd_small bm (by decide)
    have so := bd_small h1.bo (by decide)
    have su := bd_small h1.bu (by decide)
    have bn9 := bd_mono bn (show 200 ≤ 900 by decide)
    have bm9 := bd_mono bm (show 200 ≤ 900 by decide)
    refine ⟨_, rfl, t, _, rfl, SqT.of h1.h, rfl, _, _, rfl, _, _, rfl, rfl, ?_⟩
    refine ⟨_, rfl, _, rfl, _, rfl, a, dx, n, m, o, u, rfl, ha, rd, h1.e, bn9, bm9, so, su, _, rfl, if_false_of rfl ?_⟩
    refine ⟨_, rfl, a, dx, _, rfl, ha, a, dx, n, m, rfl, ha, rd, sm, fun p1 dx1 H1 v1 np1 hp1 => ?_⟩
    refine ⟨_, rfl, _, rfl, _, rfl, p1, dx1, -n, m, -o, u, rfl, hp1, red_neg rd, (by rw [Int.neg_mul, Int.neg_mul, h1.e]), bd_neg bn9, bm9, small_neg so, su, _, rfl, if_false_of rfl ?_⟩
    have ha1 := v1 _ _ ha
    refine ⟨_, rfl, a, dx, _, rfl, ha1, a, dx, n, m, rfl, ha1, rd, sm, fun p2 dx2 H2 v2 np2 hp2 => ?_⟩
    have ab : ∀ {x : Int} {j : Nat}, bd j x → bd j (if x < 0 then -x else x) := fun h => by
      split
      · exact bd_neg h
      · exact h
    refine ⟨_, rfl, _, rfl, _, rfl, _, rfl, p2, dx2, U_abs n, m, _, _, rfl, hp2, red_abs rd, abs_cross hm h1.e, ab bn9, bm9, bd_small (ab h1.bo) (by decide), bd_small (ab h1.bu) (by decide), _, rfl, iteF ?_⟩
    have ha2 := v2 _ _ ha1
    have z := zero_iff hm h1.u0 h1.e
    refine ⟨_, rfl, a, dx, _, rfl, ha2, a, dx, n, m, rfl, ha2, _, rfl, _, rfl, rfl, rfl, _, rfl, if_false_of ?_ ?_⟩
    · by_cases hn : n = 0
      · have ho := z.mp hn
        subst hn
        subst ho
        simp
      · have ho : o ≠ 0 := fun q => hn (z.mpr q)
        simp [hn, ho]
    refine ⟨_, rfl, a, dx, _, rfl, ha2, rf_no _ _ (by decide +kernel) (by decide +kernel), a, dx, n, m, rfl, ha2, by omega, sm, _, rfl, _, rfl, _, _, rfl, rfl, ⟨h1.u0, small9 su⟩, rfl, _, rfl, if_false_of ?_ ?_⟩
    · show (!decide (V.int (n.fdiv m) = V.int (o.fdiv u))) = false
      rw [fdiv_eqv hm h1.u0 h1.e]
      simp
    have ln := bd_log bn (by decide) (by decide)
    have lm := bd_log bm (by decide) (by decide)
    refine ⟨fun σ' H' => H' = H2 ∧ σ' = [some (.ref a), some (.ref t), some (.int o), some (.int u), some (.str (rTxt n m))], ?_, ?_⟩
    · refine ⟨_, rfl, a, dx, _, rfl, ha2, a, dx, _, _, rfl, ha2, rf_bot _ _, rfl, _, rfl, ?_⟩
      have e : ∀ h : Bool, decide (V.int m = V.int 1) = h → h = decide (m = 1) := fun h q => by rw [← q]; simp
      by_cases hm1 : m = 1
      · subst hm1
        refine if_true_of (by simp) ⟨_, rfl, a, dx, _, rfl, ha2, a, dx, _, _, rfl, ha2, rf_top _ _, _, rfl, by omega, rfl, ?_⟩
        unfold rTxt
        rw [if_pos rfl]
        rfl
      · have l1 := int_len (i := n) (by omega)
        have l2 := int_len (i := m) (by omega)
        have lS : (Str.ofString "/").length = 1 := by decide +kernel
        refine if_false_of (by simpa using hm1) ⟨_, rfl, a, dx, _, rfl, ha2, a, dx, _, _, rfl, ha2, rf_top _ _, _, rfl, by omega, _, _, rfl, rfl, (by rw [lS, sizeLine_eq]; omega), _, rfl, a, dx, _, rfl, ha2, a, dx, _, _, rfl, ha2, rf_bot _ _, _, rfl, by omega, _, _, rfl, rfl, (by rw [Str.length_append, lS, sizeLine_eq]; omega), rfl, ?_⟩
        unfold rTxt
        rw [if_neg hm1]
        rfl
    · rintro _ _ ⟨rfl, rfl⟩
      refine ⟨_, rfl, a, dx, _, rfl, ha2, a, dx, n, m, rfl, ha2, ln, lm, _, rfl, _, rfl, rfl, _, rfl, if_true_of (decide_eq_true rfl) ?_⟩
      refine ⟨_, rfl, .rat n m, _, rfl, ⟨a, dx, rfl, ha2⟩, (by show (decide _ && decide _) = true; rw [decide_eq_true ln, decide_eq_true lm]; rfl), _, rfl, rfl, ?_⟩
      show Q (.bl (decide (V.str (rTxt n m) = V.str (rTxt n m)))) _
      rw [decide_eq_true rfl]
      exact k _ (v1.trans v2)
end
end Fu

namespace Fu
open PySem L2
open PyProof.Rows hiding St
open L2H (RoomH roomH_of)
def turns (L : Int) : Int := if (if 8 < L then (8 : Int) else L) > 1 then (if 8 < L then (8 : Int) else L) else 1
theorem turns_le (L : Int) : turns L ≤ 8 ∧ -(2 ^ 62 : Int) ≤ turns L := by
  unfold turns
  split <;> split <;> omega
theorem rTxt_len {n m : Int} (hn : n.natAbs.log2 < 1900) (hm : m.natAbs.log2 < 1900) : (rTxt n m).length ≤ 4000 := by
  have l1 := int_len (i := n) (by omega)
  have l2 := int_len (i := m) (by omega)
  unfold rTxt
  split
  · show (Str.ofString (toString n)).length ≤ 4000
    omega
  · have lS : (Str.ofString "/").length = 1 := by decide +kernel
    rw [Str.length_append, Str.length_append, lS]
    omega
theorem list2_len {a b : Str} (ha : a.length ≤ 4000) (hb : b.length ≤ 4000) : (listText [a, b]).length ≤ sizeLine := by
  have h1 : (Str.ofString "[").length = 1 := by decide +kernel
  have h2 : (Str.ofString "]").length = 1 := by decide +kernel
  have h3 : (Str.ofString ", ").length = 2 := by decide +kernel
  have h4 : (Str.ofString "").length = 0 := by decide +kernel
  show (((Str.ofString "[" ++ Str.ofString "" ++ a) ++ Str.ofString ", " ++ b) ++ Str.ofString "]").length ≤ sizeLine
  rw [Str.length_append, Str.length_append, Str.length_append, Str.length_append, Str.length_append, h1, h2, h3, h4, sizeLine_eq]
  omega
theorem two_at {H : Hp} {C p1 dx1 p2 dx2 : Addr} {n m i j : Int} (h1 : H p1 = some (.ins C dx1 (rf n m))) (h2 : H p2 = some (.ins C dx2 (rf i j))) (ln : n.natAbs.log2 < 1900) (lm : m.natAbs.log2 < 1900) (li : i.natAbs.log2 < 1900) (lj : j.natAbs.log2 < 1900) :
    ∀ (x : Nat) (v : V), [V.ref p1, V.ref p2][x]? = some v → ∃ (n' m' : Int) (b dx : Addr), [(n, m), (i, j)][x]? = some (n', m') ∧ v = .ref b ∧ H b = some (.ins C dx (rf n' m')) ∧ n'.natAbs.log2 < 1900 ∧ m'.natAbs.log2 < 1900
  | 0, _, e => by
    cases e
    exact ⟨n, m, p1, dx1, rfl, rfl, h1, ln, lm⟩
  | 1, _, e => by
    cases e
    exact ⟨i, j, p2, dx2, rfl, rfl, h2, li, lj⟩
  | x + 2, _, e => by simp at e
theorem cross_over {n m i j o1 u1 o2 u2 p q : Int} (hm : 0 < m) (hj : 0 < j) (h1 : n * u1 = o1 * m) (h2 : i * u2 = o2 * j) (h3 : p * (m * i) = (n * j) * q) : p * (u1 * o2) = (o1 * u2) * q := by
  refine Int.eq_of_mul_eq_mul_right (mul_ne hm hj) ?_
  grind
theorem cross_whole {n m o1 u1 o2 p q : Int} (hm : 0 < m) (h1 : n * u1 = o1 * m) (h3 : p * (m * o2) = (n * 1) * q) : p * (u1 * o2) = o1 * q := by
  refine Int.eq_of_mul_eq_mul_right (show m ≠ 0 by omega) ?_
  grind
/-- the Ratio at p, made of o and u -/
structure Made (C : Addr) (H : Hp) (p dx : Addr) (n m o u : Int) : Prop where
  h : H p = some (.ins C dx (rf n m))
  r : Red n m
  e : n * u = o * m
  bn : bd 200 n
  bm : bd 200 m
theorem Made.ex {C : Addr} {H H' : Hp} {p dx : Addr} {n m o u : Int} (h : Made C H p dx n m o u) (s : Same H H') : Made C H' p dx n m o u := ⟨s _ _ h.h, h.r, h.e, h.bn, h.bm⟩
theorem Made.nm {C : Addr} {H : Hp} {p dx : Addr} {n m o u : Int} (h : Made C H p dx n m o u) : Nm C H (.ref p) (.rat n m) n m := ⟨⟨p, dx, rfl, h.h⟩, rfl, h.r, bd_small h.bn (by decide), bd_small h.bm (by decide)⟩
theorem made_of {C : Addr} {H : Hp} {p dx : Addr} {o u : Int} (h : H p = some (.ins C dx (rf (rN o u) (rD o u)))) (hu : u ≠ 0) (bo : bd 200 o) (bu : bd 200 u) : Made C H p dx (rN o u) (rD o u) o u :=
  ⟨h, red_rn hu, cross_rn hu, bd_le bo (abs_rn hu).1, bd_le bu (abs_rn hu).2⟩
theorem bd_59 : bd 197 (10 ^ 59) := by
  unfold bd
  decide
theorem one_of {m : Int} (h0 : 0 < m) (h1 : m.natAbs ≤ (1 * 1 : Int).natAbs) : m = 1 := by
  have : (1 * 1 : Int).natAbs = 1 := rfl
  omega
theorem gt_of {B n m : Int} (hB : 0 < B) (hm : 0 < m) (e : n * B = (B + 1) * m) : m < n := by
  have h1 : n * B = m * B + m := by rw [e, Int.add_mul, Int.one_mul, Int.mul_comm B m]
  have h2 : m * B < n * B := by omega
  exact Int.lt_of_mul_lt_mul_right h2 (Int.le_of_lt hB)
theorem txt_51 : txt (.lst [.int (rN 5 1), .int (rD 5 1)]) = "[5, 1]" := by decide +kernel
theorem shw_51 : shw (.lst [.int (rN 5 1), .int (rD 5 1)]) = true := by decide +kernel
theorem txt_5 : txt (.rat (rN 5 1) (rD 5 1)) = "5" := by decide +kernel
theorem shw_5 : shw (.rat (rN 5 1) (rD 5 1)) = true := by decide +kernel
theorem txt_half : txt (.rat (rN 2 (-4)) (rD 2 (-4))) = "-1/2" := by decide +kernel
theorem shw_half : shw (.rat (rN 2 (-4)) (rD 2 (-4))) = true := by decide +kernel
theorem six_three : R_eq (rN 6 3 * 1) (2 * rD 6 3) = true := by decide +kernel
theorem small_six : small (rN 6 3) ∧ small (rD 6 3) := by
  unfold small
  decide +kernel
theorem small_2 : small 2 := by
  unfold small
  decide
theorem one_1 : rN 1 1 = 1 ∧ rD 1 1 = 1 := by decide +kernel
structure Bl (mg : Str → Option Value) : Prop where
  range : mg "range" = none
  max : mg "max" = none
  min : mg "min" = none
  len : mg "len" = none
  repr : mg "repr" = none
def spLaw (K : PySem.W.Frag) : Sp := fun vs H Q _ => ∃ (a : Addr) (ns : List Int), vs = [.ref a] ∧ SqL K H a (ns.map V.int) ∧ ns.length ≤ 63 ∧ ∀ H', Q (.bl true) H'
section
variable {P : Program} {w : World} {K : PySem.W.Frag} {mg : Str → Option Value} {base : Heap} {C : Addr}
abbrev nLaw : List Str := ["_law_script", "_law_k", "_law_pool_here", "_law_turn", "_law_first", "_law_second", "_law_one", "_law_other", "_law_whole", "_law_kept", "_law_due", "_law_big"]
theorem scLaw : FnScope nLaw ["_law_script"] (defScope sLaw) := ⟨rfl, rfl, rfl, by decide +kernel, rfl, by decide +kernel, by decide +kernel⟩
/-- the defs that the law calls -/
structure Calls10 (P : Program) (w : World) (K : PySem.W.Frag) (mg : Str → Option Value) (base : Heap) (C CI fp fd fi f1 f2 fo : Addr) (dp dd di d1 d2 do_ : FuncData) : Prop where
  pool : Def P w K mg base CX0 1 "_law_pool" ["_law_script", "_law_k"] (spPool K) fp dp
  drawn : Def P w K mg base CX0 2 "_law_drawn" ["_law_pool_here"] spDrawn fd dd
  is_ : Def P w K mg base CX0 3 "_law_is" ["_law_ratio", "_law_over_it", "_law_under_it"] (spIs C) fi di
  one : FnG P w K mg base CX0 7 f1 d1 ["_law_one", "_law_first"] (spOne C)
  one_g : mg "_law_one_right" = some (.ref f1)
  one_k : PySem.W.keepIn K (.ref f1) = true
  one_b : Binds K d1 ["_law_one", "_law_first"] []
  pair : FnG P w K mg base CX0 7 f2 d2 ["_law_one", "_law_other", "_law_first", "_law_second"] (spPair C)
  pair_g : mg "_law_pair_right" = some (.ref f2)
  pair_k : PySem.W.keepIn K (.ref f2) = true
  pair_b : Binds K d2 ["_law_one", "_law_other", "_law_first", "_law_second"] []
  over : FnOk P w K mg base (L2.CX P w) 5 fo do_ ["self", "other"] (spOver C CI)
  over_b : Binds K do_ ["self", "other"] []
  over_m : Meth K C "over" fo
theorem ok_law {f fp fd_ fi f1 f2 fo f3 fR pt ft pb fb CI : Addr} {fd dp dd di d1 d2 do_ fd3 fdR fdt fdb : FuncData} {ds its1 its2 : List Value} (F : Fun K "law" "law" sLaw f fd) (B : Bl mg) (O : RatO P w K mg base C) (M : RatM P w K mg base C CI f3 fd3 ds) (G : RatP P w K mg base C pt ft pb fb fdt fdb)
    (T : ReprC P w K mg base C fR fdR (spRepr C)) (L : Calls10 P w K mg base C CI fp fd_ fi f1 f2 fo dp dd di d1 d2 do_)
    (k1 : KBn K fd3 ["self", "top", "bottom"] 1 ["top"] (fun us ws => us ++ (ws ++ its1)) (fun vs zs => vs ++ (zs ++ [.int 1]))) (k2 : KBn K fd3 ["self", "top", "bottom"] 1 ["bottom", "top"] (fun us ws => us ++ ws.reverse) (fun vs zs => vs ++ zs.reverse)) :
    FnG P w K mg base CX0 9 f fd ["_law_script"] (spLaw K) := by
  refine Fun.okG F scLaw (fun vs H Q E h => ?_) (fun cdv A outer s H vs Q E hr h => ?_)
  · obtain ⟨a, ns, rfl, _⟩ := h
    rfl
  · obtain ⟨a, ns, rfl, hS, hn, k⟩ := h
    have hr1 : Room 1 _ := hr.r.mono (show 1 ≤ 8 by decide)
    have hr2 : Room 2 _ := hr.r.mono (show 2 ≤ 8 by decide)
    have hr3 : Room 3 _ := hr.r.mono (show 3 ≤ 8 by decide)
    have hr4 : Room 4 _ := hr.r.mono (show 4 ≤ 8 by decide)
    have hr5 : Room 5 _ := hr.r.mono (show 5 ≤ 8 by decide)
    have hr6 : Room 6 _ := hr.r.mono (show 6 ≤ 8 by decide)
    have hr7 : RoomG 7 _ := hr.mono (show 7 ≤ 8 by decide)
    have hrH : RoomH 2 _ := (roomH_of hr.r).mono (show 2 ≤ 8 by decide)
    have hrH3 : RoomH 3 _ := (roomH_of hr.r).mono (show 3 ≤ 8 by decide)
    refine ⟨_, PSs.nox (pss_cons (ps_for PassesOwn.never rfl
        (pi_range1 rfl B.range (pa_cons (pe_callB (call_max2 rfl) (by rfl) B.max (by decide +kernel) (pa_cons pe_int (pa_cons (pe_callB (call_min2 rfl) (by rfl) B.min (by decide +kernel) (pa_cons (pe_callB call_len_seq (by rfl) B.len PySem.boot_len (pa_cons (pv 0) pa_nil)) (pa_cons pe_int pa_nil))) pa_nil))) pa_nil))
        (pg_name (i := 1) scLaw.nd rfl (Or.inl rfl))
        (Evl.pss_cut (ps_set (i := 2) scLaw.nd rfl (Or.inl rfl) (pe_def L.pool hr1 (pa_cons (pv 0) (pa_cons (pv 1) pa_nil))))
        (pss_one (ps_for PassesOwn.never rfl (pi_range1 rfl B.range (pa_cons pe_int pa_nil)) (pg_name (i := 3) scLaw.nd rfl (Or.inl rfl))
          (Evl.pss_cut (ps_par rfl scLaw.nd (i := 4) (j := 5) rfl rfl (by decide) rfl rfl (pa_cons (pe_def L.drawn hr2 (pa_cons (pv 2) pa_nil)) (pa_cons (pe_def L.drawn hr2 (pa_cons (pv 2) pa_nil)) pa_nil)) (by rfl))
          (Evl.pss_cut (ps_if (pt_cmpR op_eq (pv 3) pe_int (nomark _)) (pss_one (ps_set (i := 5) scLaw.nd rfl (Or.inl rfl) (pe_tup (pa_cons (pe_op op_mulW (pe_ix ix_tup (pv 4) pe_int (fun _ _ => rfl)) pe_int) (pa_cons (pe_op op_mulW (pe_ix ix_tup (pv 4) pe_int (fun _ _ => rfl)) pe_int) pa_nil))))) pss_nil)
          (Evl.pss_cut (ps_par3 rfl scLaw.nd (i := 6) (j := 7) (l := 8) rfl rfl rfl (by decide) (by decide) (by decide) rfl rfl rfl (pa_cons (pe_make M.m M.ok hr4 rfl O.r2.g M.b2 .nil passL (pa_cons (pe_ix ix_tup (pv 4) pe_int (fun _ _ => rfl)) (pa_cons (pe_ix ix_tup (pv 4) pe_int (fun _ _ => rfl)) pa_nil)))
              (pa_cons (pe_make M.m M.ok hr4 rfl O.r2.g M.b2 .nil passL (pa_cons (pe_ix ix_tup (pv 5) pe_int (fun _ _ => rfl)) (pa_cons (pe_ix ix_tup (pv 5) pe_int (fun _ _ => rfl)) pa_nil))) (pa_cons (pe_ix ix_tup (pv 5) pe_int (fun _ _ => rfl)) pa_nil))) (by rfl))
          (pss_cons (ps_set (i := 9) scLaw.nd rfl (Or.inl rfl) (pe_callB (call_reprL T hr.g hrH3) (by rfl) B.repr (by decide +kernel) (pa_cons (pe_lst (pa_cons (pv 6) (pa_cons (pv 7) pa_nil))) pa_nil)))
          (pss_cons (ps_if (PW.pt (pw_or (pt_not (pt_val (pe_callG L.one hr7 L.one_g L.one_k L.one_b (pa_cons (pv 6) (pa_cons (pv 4) pa_nil))))) (pw_or1 (pt_not (pt_val (pe_callG L.pair hr7 L.pair_g L.pair_k L.pair_b (pa_cons (pv 6) (pa_cons (pv 7) (pa_cons (pv 4) (pa_cons (pv 5) pa_nil)))))))))) (pss_one (ps_ret pe_bl)) pss_nil)
          (pss_cons (ps_if (PW.pt (pw_or (pt_not (pt_val (pe_callG L.pair hr7 L.pair_g L.pair_k L.pair_b (pa_cons (pv 6) (pa_cons (pv 8) (pa_cons (pv 4) (pa_cons (pe_tup (pa_cons (pv 8) (pa_cons pe_int pa_nil))) pa_nil)))))))
              (pw_or1 (pt_not (pt_val (pe_callG L.pair hr7 L.pair_g L.pair_k L.pair_b (pa_cons (pv 8) (pa_cons (pv 6) (pa_cons (pe_tup (pa_cons (pv 8) (pa_cons pe_int pa_nil))) (pa_cons (pv 4) pa_nil)))))))))) (pss_one (ps_ret pe_bl)) pss_nil)
          (pss_cons (ps_set (i := 10) scLaw.nd rfl (Or.inl rfl) (pe_lst (pa_cons (pe_op op_mulW (pe_ix ix_tup (pv 4) pe_int (fun _ _ => rfl)) (pe_ix ix_tup (pv 5) pe_int (fun _ _ => rfl))) (pa_cons (pe_op op_mulW (pe_ix ix_tup (pv 4) pe_int (fun _ _ => rfl)) (pe_ix ix_tup (pv 5) pe_int (fun _ _ => rfl))) pa_nil))))
          (Evl.pss_cut (ps_if (PW.pt (pw_and (pt_cmpR op_ne (pv 8) pe_int (nomark _)) (pw_and1 (pt_not (pt_val (pe_def L.is_ hr3 (pa_cons (pe_meth (pv 6) O.r.ci.cl L.over_m L.over hr5 L.over_b .nil passL (pa_cons (pv 7) pa_nil)) (pa_cons (pe_ix ix_list (pv 10) pe_int (fun _ _ => rfl)) (pa_cons (pe_ix ix_list (pv 10) pe_int (fun _ _ => rfl)) pa_nil))))))))) (pss_one (ps_ret pe_bl)) pss_nil)
          (Evl.pss_cut (ps_if (PW.pt (pw_and (pt_cmpR op_ne (pv 8) pe_int (nomark _)) (pw_and1 (pt_not (pt_val (pe_def L.is_ hr3 (pa_cons (pe_meth (pv 6) O.r.ci.cl L.over_m L.over hr5 L.over_b .nil passL (pa_cons (pv 8) pa_nil)) (pa_cons (pe_ix ix_tup (pv 4) pe_int (fun _ _ => rfl)) (pa_cons (pe_op op_mulW (pe_ix ix_tup (pv 4) pe_int (fun _ _ => rfl)) (pv 8)) pa_nil))))))))) (pss_one (ps_ret pe_bl)) pss_nil)
          (pss_one (ps_if (pt_cmpR op_ne (pe_callB (call_reprL T hr.g hrH3) (by rfl) B.repr (by decide +kernel) (pa_cons (pe_lst (pa_cons (pv 6) (pa_cons (pv 7) pa_nil))) pa_nil)) (pv 9) (nomark _)) (pss_one (ps_ret pe_bl)) pss_nil)))))))))))))))
      (pss_cons (ps_set (i := 11) scLaw.nd rfl (Or.inl rfl) (pe_make M.m M.ok hr4 rfl O.r2.g M.b1 M.d1 passL (pa_cons pe_int pa_nil)))
      (pss_cons (ps_for PassesOwn.never rfl (pi_range1 rfl B.range (pa_cons pe_int pa_nil)) (pg_name (i := 3) scLaw.nd rfl (Or.inl rfl)) (pss_one (ps_set (i := 11) scLaw.nd rfl (Or.inl rfl) (pe_op (op_numMul O hr6) (pv 11) (pe_op op_pow pe_int pe_int)))))
      (pss_cons (ps_if (PW.pt (pw_or (pt_cmpR op_ne (pe_callB (call_reprD T hr.g hrH) (by rfl) B.repr (by decide +kernel) (pa_cons (pe_lst (pa_cons (pe_prop (by exact (pe_make M.m M.ok hr4 rfl O.r2.g M.b1 M.d1 passL (pa_cons pe_int pa_nil))) O.r.ci.cl G.t G.gt hr2 G.bt .nil pass0 rfl) (pa_cons (pe_prop (by exact (pe_make M.m M.ok hr4 rfl O.r2.g M.b1 M.d1 passL (pa_cons pe_int pa_nil))) O.r.ci.cl G.b G.gb hr2 G.bb .nil pass0 rfl) pa_nil))) pa_nil)) pe_str (nomark _))
          (pw_or1 (pt_cmpR op_ne (pe_callB (call_reprD T hr.g hrH) (by rfl) B.repr (by decide +kernel) (pa_cons (pe_cmpR (op_numGt O hr3) (pe_meth (pe_op (op_numAdd O hr6) (pv 11) pe_int) O.r.ci.cl L.over_m L.over hr5 L.over_b .nil passL (pa_cons (pv 11) pa_nil)) pe_int (nomark _)) pa_nil)) pe_str (nomark _))))) (pss_one (ps_ret pe_bl)) pss_nil)
      (pss_one (ps_ret (pe_and (pe_cmpR (op_numEq O hr3) (pe_make M.m M.ok hr4 rfl O.r2.g M.b2 .nil passL (pa_cons pe_int (pa_cons pe_int pa_nil))) pe_int (nomark _))
        (pe_and (pe_cmpR op_eq (pe_callB (call_reprD T hr.g hrH) (by rfl) B.repr (by decide +kernel) (pa_cons (pe_makeK0 M.m M.ok hr4 rfl O.r2.g k1 passL (pk_cons pe_int pk_nil)) pa_nil)) pe_str (nomark _))
        (pe_one (pe_cmpR op_eq (pe_callB (call_reprD T hr.g hrH) (by rfl) B.repr (by decide +kernel) (pa_cons (pe_makeK0 M.m M.ok hr4 rfl O.r2.g k2 passL (pk_cons (pe_un un_neg pe_int) (pk_cons pe_int pk_nil))) pa_nil)) pe_str (nomark _))))))))))), ?_⟩
    have hJ := turns_le (List.map V.int ns).length
    refine ⟨_, rfl, a, _, rfl, .inl hS, _, _, rfl, _, _, rfl, _, rfl, hJ.2, (show turns (List.map V.int ns).length < 2 ^ 62 by omega), ?_⟩
    refine for_range (lo := 0) (n := (turns (List.map V.int ns).length).toNat) (fun i σ H' => Same H H' ∧ ∃ s1 s2 s3 s4 s5 s6 s7 s8 s9 s10 s11, σ = [some (.ref a), s1, s2, s3, s4, s5, s6, s7, s8, s9, s10, s11]) ⟨Same.refl H, _, _, _, _, _, _, _, _, _, _, _, rfl⟩ ?_ ?_
    · rintro i0 σ H1 hi ⟨sm, s1, s2, s3, s4, s5, s6, s7, s8, s9, s10, s11, rfl⟩
      rw [Int.zero_add]
      refine ⟨fun σ' H' => ∃ pl x y, σ' = [some (.ref a), some (.int i0), some (.ref pl), s3, s4, s5, s6, s7, s8, s9, s10, s11] ∧ Same H1 H' ∧ H1 pl = none ∧ H' pl = some (.lst [.int x, .int y]) ∧ 0 ≤ x ∧ 0 ≤ y, ?_, ?_⟩
      · exact ⟨_, rfl, _, rfl, a, ns, i0, rfl, sm.seq hS, by omega, fun p x y np hx hy => ⟨p, x, y, rfl, Same.new np, np, upd_same, hx, hy⟩⟩
      rintro _ H2 ⟨pl, x, y, rfl, e2, np, hp, hx, hy⟩
      refine ⟨4, rfl, by decide, by decide, ?_⟩
      refine for_range (lo := 0) (n := 4) (fun t σ H' => ∃ x y s3 s4 s5 s6 s7 s8 s9 s10 s11, σ = [some (.ref a), some (.int i0), some (.ref pl), s3, s4, s5, s6, s7, s8, s9, s10, s11] ∧ Same H1 H' ∧ H' pl = some (.lst [.int x, .int y]) ∧ 0 ≤ x ∧ 0 ≤ y)
        ⟨x, y, _, _, _, _, _, _, _, _, _, rfl, e2, hp, hx, hy⟩ ?_ (fun σ H' ⟨x, y, t3, t4, t5, t6, t7, t8, t9, t10, t11, eσ, e, _⟩ => ⟨sm.trans e, _, _, _, _, _, _, _, _, _, _, _, eσ⟩)
      clear hp hx hy e2
      rintro t _ H3 ht ⟨x, y, t3, t4, t5, t6, t7, t8, t9, t10, t11, rfl, e3, hp, hx, hy⟩
      have keep : ∀ {Ha Hb : Hp}, Same H1 Ha → SameX pl Ha Hb → Same H1 Hb := fun ea eb b o h => eb b o (ne_of_none h np) (ea b o h)
      refine ⟨fun σ' H' => ∃ x y p1 p2 o1 u1 o2 u2, σ' = [some (.ref a), some (.int i0), some (.ref pl), some (.int (0 + t)), some (.ref p1), some (.ref p2), t6, t7, t8, t9, t10, t11] ∧ Same H1 H' ∧ H' pl = some (.lst [.int x, .int y]) ∧ 0 ≤ x ∧ 0 ≤ y ∧
        H' p1 = some (.tup [.int o1, .int u1]) ∧ H' p2 = some (.tup [.int o2, .int u2]) ∧ bd 193 o1 ∧ bd 193 u1 ∧ bd 193 o2 ∧ bd 193 u2 ∧ u1 ≠ 0 ∧ u2 ≠ 0, ?_, ?_⟩
      · refine ⟨_, rfl, pl, x, y, rfl, hp, hx, hy, fun H4 p1 x1 y1 o1 u1 q1 hp1 hx1 hy1 np1 ne1 ht1 bo1 u10 bu1 => ?_⟩
        refine ⟨_, rfl, pl, x1, y1, rfl, hp1, hx1, hy1, fun H5 p2 x2 y2 o2 u2 q2 hp2 hx2 hy2 np2 ne2 ht2 bo2 u20 bu2 => ?_⟩
        exact ⟨_, _, rfl, x2, y2, p1, p2, o1, u1, o2, u2, rfl, keep (keep e3 q1) q2, hp2, hx2, hy2, q2 _ _ ne1 ht1, ht2, bd_10_58 bo1, bd_10_58 bu1, bd_10_58 bo2, bd_10_58 bu2, u10, u20⟩
      clear e3 hp hx hy x y
      rintro _ H4 ⟨x, y, q1, q2, o1, u1, o2, u2, rfl, e4, hp, hx, hy, h1, h2, bo1, bu1, bo2, bu2, u10, u20⟩
      have ix0 : ∀ a b : Int, atI [V.int a, V.int b] 0 = some (.int a) := fun _ _ => rfl
      have ix1 : ∀ a b : Int, atI [V.int a, V.int b] 1 = some (.int b) := fun _ _ => rfl
      have b7 : bd 3 7 := by unfold bd; decide
      refine ⟨fun σ' H' => ∃ q2 o2 u2, σ' = [some (.ref a), some (.int i0), some (.ref pl), some (.int (0 + t)), some (.ref q1), some (.ref q2), t6, t7, t8, t9, t10, t11] ∧ Same H4 H' ∧ H' q2 = some (.tup [.int o2, .int u2]) ∧ bd 200 o2 ∧ bd 200 u2 ∧ u2 ≠ 0, ?_, ?_⟩
      · refine ⟨_, rfl, rfl, _, rfl, ?_⟩
        by_cases h3 : (0 : Int) + t = 3
        · refine if_true_of (by rw [h3]; exact decide_eq_true rfl) ⟨_, rfl, q1, _, _, _, rfl, rfl, SqT.of h1, ix0 _ _, _, _, rfl, rfl, small_mul (bd_small bo1 (by decide)) (bd_small b7 (by decide)), _, rfl, q1, _, _, _, rfl, rfl, SqT.of h1, ix1 _ _, _, _, rfl, rfl, small_mul (bd_small bu1 (by decide)) (bd_small b7 (by decide)), (by show 2 ≤ sizeLine; decide), fun q nq => ?_⟩
          exact ⟨q, o1 * 7, u1 * 7, rfl, Same.new nq, upd_same, bd_mono (bd_mul bo1 b7) (by decide), bd_mono (bd_mul bu1 b7) (by decide), by omega⟩
        · exact if_false_of (decide_eq_false fun z => h3 (V.int.inj z)) ⟨q2, o2, u2, rfl, Same.refl _, h2, bd_mono bo2 (by decide), bd_mono bu2 (by decide), u20⟩
      clear h2 bo2 bu2 u20 q2 o2 u2
      rintro _ H5 ⟨q2, o2, u2, rfl, e5, h2, bo2, bu2, u20⟩
      replace bo1 := bd_mono bo1 (show 193 ≤ 200 by decide)
      replace bu1 := bd_mono bu1 (show 193 ≤ 200 by decide)
      replace h1 := e5 _ _ h1
      replace hp := e5 _ _ hp
      replace e5 := e4.trans e5
      clear e4
      refine ⟨fun σ' H' => ∃ p1 dx1 p2 dx2 n m i j, σ' = [some (.ref a), some (.int i0), some (.ref pl), some (.int (0 + t)), some (.ref q1), some (.ref q2), some (.ref p1), some (.ref p2), some (.int o2), t9, t10, t11] ∧ Same H5 H' ∧ Made C H' p1 dx1 n m o1 u1 ∧ Made C H' p2 dx2 i j o2 u2, ?_, ?_⟩
      · refine ⟨_, rfl, q1, _, _, _, rfl, rfl, SqT.of h1, ix0 _ _, _, rfl, q1, _, _, _, rfl, rfl, SqT.of h1, ix1 _ _, fun x1 dx1 nx1 nd1 ne1 => ?_⟩
        refine init_intR (C := C) (CI := CI) (n := o1) (m := u1) nx1 nd1 ne1 u10 (small9 (bd_small bu1 (by decide))) fun G1 f1 hx1 => ⟨rfl, ?_⟩
        refine ⟨_, rfl, q2, _, _, _, rfl, rfl, SqT.of (f1 _ _ h2), ix0 _ _, _, rfl, q2, _, _, _, rfl, rfl, SqT.of (f1 _ _ h2), ix1 _ _, fun x2 dx2 nx2 nd2 ne2 => ?_⟩
        refine init_intR (C := C) (CI := CI) (n := o2) (m := u2) nx2 nd2 ne2 u20 (small9 (bd_small bu2 (by decide))) fun G2 f2 hx2 => ⟨rfl, ?_⟩
        exact ⟨_, rfl, q2, _, _, _, rfl, rfl, SqT.of (f2 _ _ (f1 _ _ h2)), ix0 _ _, _, _, _, rfl, x1, dx1, x2, dx2, _, _, _, _, rfl, f1.trans f2, made_of (f2 _ _ hx1) u10 bo1 bu1, made_of hx2 u20 bo2 bu2⟩
      rintro _ H6 ⟨p1, dx1, p2, dx2, n, m, i, j, rfl, e6, m1, m2⟩
      have ln := bd_log m1.bn (by decide) (by decide)
      have lm := bd_log m1.bm (by decide) (by decide)
      have li := bd_log m2.bn (by decide) (by decide)
      have lj := bd_log m2.bm (by decide) (by decide)
      have so1 := bd_small bo1 (by decide)
      have su1 := bd_small bu1 (by decide)
      have so2 := bd_small bo2 (by decide)
      have su2 := bd_small bu2 (by decide)
      have hm := m1.r.1
      have hj := m2.r.1
      have hsz := list2_len (rTxt_len ln lm) (rTxt_len li lj)
      -- kept
      refine ⟨_, rfl, _, rfl, (by show 2 ≤ sizeLine; decide), fun l1 nl1 => ?_⟩
      have g1 := Same.new (o := .lst [.ref p1, .ref p2]) nl1
      refine ⟨l1, [.ref p1, .ref p2], [(n, m), (i, j)], rfl, by simp, upd_same, rfl, two_at (g1 _ _ m1.h) (g1 _ _ m2.h) ln lm li lj, hsz, fun H7 e7 => ?_⟩
      replace e7 := g1.trans e7
      have P1 : ∀ {Hx : Hp}, Same H6 Hx → Pr Hx q1 n m o1 u1 := fun e => ⟨e _ _ (e6 _ _ h1), m1.e, u10, bo1, bu1⟩
      have P2 : ∀ {Hx : Hp}, Same H6 Hx → Pr Hx q2 i j o2 u2 := fun e => ⟨e _ _ (e6 _ _ h2), m2.e, u20, bo2, bu2⟩
      -- one, pair
      refine ⟨_, rfl, _, rfl, p1, dx1, q1, n, m, o1, u1, rfl, e7 _ _ m1.h, m1.r, P1 e7, m1.bn, m1.bm, fun H8 e8 => ⟨_, rfl, if_false_of rfl ?_⟩⟩
      replace e8 := e7.trans e8
      refine ⟨_, rfl, _, rfl, _, rfl, _, rfl, .ref p1, .ref p2, q1, q2, .rat n m, .rat i j, n, m, i, j, o1, u1, o2, u2, rfl, (m1.ex e8).nm, (m2.ex e8).nm, rfl, P1 e8, P2 e8, m1.bn, m1.bm, m2.bn, m2.bm, fun H9 e9 => ⟨_, rfl, if_false_of rfl ?_⟩⟩
      replace e9 := e8.trans e9
      have nW : ∀ {Hx : Hp}, Nm C Hx (.int o2) (.int o2) o2 1 := fun {_} => ⟨rfl, rfl, red_int o2, so2, small_one⟩
      have b1 : bd 200 1 := bd_mono bd_1 (by decide)
      -- with the int
      refine ⟨_, rfl, _, rfl, _, rfl, _, rfl, (by show 2 ≤ sizeLine; decide), fun w1 nw1 => ?_⟩
      have e10 := e9.trans (Same.new (o := .tup [.int o2, .int 1]) nw1)
      refine ⟨.ref p1, .int o2, q1, w1, .rat n m, .int o2, n, m, o2, 1, o1, u1, o2, 1, rfl, (m1.ex e10).nm, nW, rfl, P1 e10, ⟨upd_same, rfl, by decide, bo2, b1⟩, m1.bn, m1.bm, bo2, b1, fun H11 e11 => ⟨_, rfl, if_false_of rfl ?_⟩⟩
      replace e11 := e10.trans e11
      refine ⟨_, rfl, _, rfl, _, rfl, (by show 2 ≤ sizeLine; decide), fun w2 nw2 => ?_⟩
      have e12 := e11.trans (Same.new (o := .tup [.int o2, .int 1]) nw2)
      refine ⟨_, rfl, .int o2, .ref p1, w2, q1, .int o2, .rat n m, o2, 1, n, m, o2, 1, o1, u1, rfl, nW, (m1.ex e12).nm, rfl, ⟨upd_same, rfl, by decide, bo2, b1⟩, P1 e12, bo2, b1, m1.bn, m1.bm, fun H13 e13 => ⟨_, rfl, if_false_of rfl ?_⟩⟩
      replace e13 := e12.trans e13
      -- due
      have T1 := (P1 e13).h
      have T2 := (P2 e13).h
      refine ⟨_, rfl, q1, _, _, _, rfl, rfl, SqT.of T1, ix0 _ _, _, rfl, q2, _, _, _, rfl, rfl, SqT.of T2, ix1 _ _, _, _, rfl, rfl, small_mul so1 su2, _, rfl, q1, _, _, _, rfl, rfl, SqT.of T1, ix1 _ _, _, rfl, q2, _, _, _, rfl, rfl, SqT.of T2, ix0 _ _, _, _, rfl, rfl, small_mul su1 so2, (by show 2 ≤ sizeLine; decide), fun l2 nl2 => ?_⟩
      have e14 := e13.trans (Same.new (o := .lst [.int (o1 * u2), .int (u1 * o2)]) nl2)
      have hl2 : upd H13 l2 (.lst [.int (o1 * u2), .int (u1 * o2)]) l2 = some (.lst [.int (o1 * u2), .int (u1 * o2)]) := upd_same
      revert e14 hl2
      generalize upd H13 l2 (.lst [.int (o1 * u2), .int (u1 * o2)]) = H14
      intro e14 hl2
      refine ⟨fun σ' H' => Same H14 H' ∧ σ' = [some (.ref a), some (.int i0), some (.ref pl), some (.int (0 + t)), some (.ref q1), some (.ref q2), some (.ref p1), some (.ref p2), some (.int o2), some (.str (listText [rTxt n m, rTxt i j])), some (.ref l2), t11], ?_, ?_⟩
      · refine ⟨_, rfl, rfl, _, rfl, ?_⟩
        by_cases hz : o2 = 0
        · exact if_false_of (by rw [hz]; simp) ⟨Same.refl _, rfl⟩
        · have hi0 : i ≠ 0 := fun z => hz ((zero_iff hj u20 m2.e).mp z)
          have hb : badO (.rat i j) = false := by
            show (!true || (i == 0 && j == 1)) = false
            simp [hi0]
          have hmi : m * i ≠ 0 := Int.mul_ne_zero (by omega) hi0
          refine if_true_of (by simpa using hz) ?_
          refine ⟨_, rfl, p1, dx1, _, rfl, e14 _ _ m1.h, rf_no _ _ (by decide +kernel) (by decide +kernel), _, rfl, p1, dx1, n, m, .rat i j, .ref p2, rfl, e14 _ _ m1.h, (m2.ex e14).nm.at_, fun z => ?_, fun _ i' j' hp' => ?_⟩
          · rw [hb] at z
            cases z
          · cases hp'
            refine ⟨hmi, bd_small m1.bn (by decide), bd_small m1.bm (by decide), bd_small m2.bn (by decide), bd_small m2.bm (by decide), NewR.new hmi fun r1 dr H15 n' m' e15 nr hr1 rd' ce l1' l2' => ?_⟩
            refine ⟨_, rfl, l2, _, _, _, rfl, rfl, SqL.of (e15 _ _ hl2), ix0 _ _, _, rfl, l2, _, _, _, rfl, rfl, SqL.of (e15 _ _ hl2), ix1 _ _, r1, dr, n', m', _, _, rfl, hr1, rd', cross_over hm hj m1.e m2.e ce, bd_mono (bd_le (bd_mul m1.bn m2.bm) l1') (by decide), bd_mono (bd_le (bd_mul m1.bm m2.bn) l2') (by decide), bd_small (bd_mul bo1 bu2) (by decide), bd_small (bd_mul bu1 bo2) (by decide), _, rfl, if_false_of rfl ⟨e15, rfl⟩⟩
      rintro _ H15 ⟨e15, rfl⟩
      replace e15 := e14.trans e15
      refine ⟨fun σ' H' => Same H15 H' ∧ σ' = [some (.ref a), some (.int i0), some (.ref pl), some (.int (0 + t)), some (.ref q1), some (.ref q2), some (.ref p1), some (.ref p2), some (.int o2), some (.str (listText [rTxt n m, rTxt i j])), some (.ref l2), t11], ?_, ?_⟩
      · refine ⟨_, rfl, rfl, _, rfl, ?_⟩
        by_cases hz : o2 = 0
        · exact if_false_of (by rw [hz]; simp) ⟨Same.refl _, rfl⟩
        · have hb : badO (.int o2) = false := by
            show (!true || (o2 == 0)) = false
            simp [hz]
          have hmi : m * o2 ≠ 0 := Int.mul_ne_zero (by omega) hz
          have T3 := (P1 e15).h
          refine if_true_of (by simpa using hz) ?_
          refine ⟨_, rfl, p1, dx1, _, rfl, e15 _ _ m1.h, rf_no _ _ (by decide +kernel) (by decide +kernel), _, rfl, p1, dx1, n, m, .int o2, .int o2, rfl, e15 _ _ m1.h, rfl, fun z => ?_, fun _ i' j' hp' => ?_⟩
          · rw [hb] at z
            cases z
          · cases hp'
            refine ⟨hmi, bd_small m1.bn (by decide), bd_small m1.bm (by decide), so2, small_one, NewR.new hmi fun r1 dr H16 n' m' e16 nr hr1 rd' ce l1' l2' => ?_⟩
            refine ⟨_, rfl, q1, _, _, _, rfl, rfl, SqT.of (e16 _ _ T3), ix0 _ _, _, rfl, q1, _, _, _, rfl, rfl, SqT.of (e16 _ _ T3), ix1 _ _, _, rfl, _, _, rfl, rfl, small_mul su1 so2, r1, dr, n', m', _, _, rfl, hr1, rd', cross_whole hm m1.e ce, bd_mono (bd_le (bd_mul m1.bn b1) l1') (by decide), bd_mono (bd_le (bd_mul m1.bm bo2) l2') (by decide), so1, bd_small (bd_mul bu1 bo2) (by decide), _, rfl, if_false_of rfl ⟨e16, rfl⟩⟩
      rintro _ H16 ⟨e16, rfl⟩
      replace e16 := e15.trans e16
      refine ⟨_, rfl, _, rfl, (by show 2 ≤ sizeLine; decide), fun l3 nl3 => ?_⟩
      have g3 := Same.new (o := .lst [.ref p1, .ref p2]) nl3
      have e17 := e16.trans g3
      refine ⟨l3, [.ref p1, .ref p2], [(n, m), (i, j)], rfl, by simp, upd_same, rfl, two_at (e17 _ _ m1.h) (e17 _ _ m2.h) ln lm li lj, hsz, fun H18 e18 => ?_⟩
      replace e18 := e17.trans e18
      refine ⟨_, rfl, rfl, _, rfl, if_false_of ?_ ?_⟩
      · show (!decide (V.str (listText [rTxt n m, rTxt i j]) = V.str (listText [rTxt n m, rTxt i j]))) = false
        rw [decide_eq_true rfl]
        rfl
      · exact ⟨x, y, _, _, _, _, _, _, _, _, _, rfl, (e5.trans e6).trans e18, e18 _ _ (e6 _ _ hp), hx, hy⟩
    · rintro σ H1 ⟨sm, s1, s2, s3, s4, s5, s6, s7, s8, s9, s10, s11, rfl⟩
      refine fun x1 dx1 nx1 nd1 ne1 => init_intR (C := C) (CI := CI) (n := 1) (m := 1) nx1 nd1 ne1 (by decide) (by decide) fun G1 f1 hx1 => ⟨rfl, ?_⟩
      rw [one_1.1, one_1.2] at hx1
      refine ⟨7, rfl, by decide, by decide, ?_⟩
      refine for_range (lo := 0) (n := 7) (fun t σ H' => ∃ (p dx : Addr) (b : Int) (s3 : Option V), σ = [some (.ref a), s1, s2, s3, s4, s5, s6, s7, s8, s9, s10, some (.ref p)] ∧ H' p = some (.ins C dx (rf b 1)) ∧ bd (200 * t + 1) b ∧ 0 < b) ⟨x1, dx1, 1, s3, rfl, hx1, bd_1, by decide⟩ ?_ ?_
      · rintro t _ H2 ht ⟨p, dx, b, s3', rfl, hp, bb, b0⟩
        refine ⟨_, rfl, _, _, rfl, rfl, ⟨by decide, by decide, by decide⟩, .rat b 1, .int (10 ^ 59), b, 1, 10 ^ 59, 1, ⟨⟨p, dx, rfl, hp⟩, rfl, red_int b, bd_small bb (by omega), small_one⟩, ⟨rfl, rfl, red_int _, bd_small bd_59 (by decide), small_one⟩, rfl, fun p' dx' H' n' m' s' np' hp' rd' e' l1 l2 => ?_⟩
        have em := one_of rd'.1 l2
        subst em
        have en : n' = b * 10 ^ 59 := by
          have z : F_mul b 1 (10 ^ 59) 1 = b * 10 ^ 59 := rfl
          rw [z] at e'
          omega
        subst en
        exact ⟨p', dx', _, _, rfl, hp', bd_mono (bd_mul bb bd_59) (by omega), Int.mul_pos b0 (by decide)⟩
      rintro _ H2 ⟨p, dx, b, s3', rfl, hp, bb, b0⟩
      have nB : ∀ {Hx : Hp}, Same H2 Hx → Nm C Hx (.ref p) (.rat b 1) b 1 := fun e => ⟨⟨p, dx, rfl, e _ _ hp⟩, rfl, red_int b, bd_small bb (by decide), small_one⟩
      have n1 : ∀ {Hx : Hp}, Nm C Hx (.int 1) (.int 1) 1 1 := fun {_} => ⟨rfl, rfl, red_int 1, small_one, small_one⟩
      refine fun x2 dx2 nx2 nd2 ne2 => init_intR (C := C) (CI := CI) (n := 5) (m := 1) nx2 nd2 ne2 (by decide) (by decide) fun G2 f2 hx2 => ⟨rfl, x2, dx2, _, rfl, hx2, x2, dx2, _, _, rfl, hx2, rf_top _ _, ?_⟩
      refine fun x3 dx3 nx3 nd3 ne3 => init_intR (C := C) (CI := CI) (n := 5) (m := 1) nx3 nd3 ne3 (by decide) (by decide) fun G3 f3 hx3 => ⟨rfl, x3, dx3, _, rfl, hx3, x3, dx3, _, _, rfl, hx3, rf_bot _ _, (by show 2 ≤ sizeLine; decide), fun l nl => ?_⟩
      refine ⟨.lst [.int (rN 5 1), .int (rD 5 1)], _, rfl, ⟨l, _, rfl, upd_same, _, _, rfl, rfl, _, _, rfl, rfl, rfl⟩, shw_51, rfl, _, rfl, if_false_of (by rw [txt_51, decide_eq_true rfl]; rfl) ?_⟩
      have e4 := (f2.trans f3).trans (Same.new (o := .lst [.int (rN 5 1), .int (rD 5 1)]) nl)
      refine ⟨_, rfl, .rat b 1, .int 1, b, 1, 1, 1, nB e4, n1, rfl, fun p2 d2 H5 n2 m2 e5 np2 hp2 rd2 c2 l1 l2 => ?_⟩
      have em := one_of rd2.1 l2
      subst em
      have en : n2 = b + 1 := by
        have z : F_add b 1 1 1 = b * 1 + 1 * 1 := rfl
        rw [z] at c2
        omega
      subst en
      replace e5 := e4.trans e5
      have hb : badO (.rat b 1) = false := by
        show (!true || (b == 0 && (1 : Int) == 1)) = false
        have : b ≠ 0 := by omega
        simp [this]
      have hmb : 1 * b ≠ 0 := by omega
      have bb1 : bd 1402 (b + 1) := bd_add bb (bd_mono bd_1 (by decide))
      refine ⟨p2, d2, _, rfl, hp2, rf_no _ _ (by decide +kernel) (by decide +kernel), _, rfl, p2, d2, b + 1, 1, .rat b 1, .ref p, rfl, hp2, (nB e5).at_, fun z => ?_, fun _ i' j' hp' => ?_⟩
      · rw [hb] at z
        cases z
      cases hp'
      refine ⟨hmb, bd_small bb1 (by decide), small_one, bd_small bb (by decide), small_one, NewR.new hmb fun p3 d3 H6 n3 m3 e6 np3 hp3 rd3 c3 l3 l4 => ?_⟩
      have b3 : bd 1403 n3 := bd_le (bd_mul bb1 bd_1) l3
      have b4 : bd 1402 m3 := bd_le (bd_mul bd_1 bb) l4
      refine ⟨.rat n3 m3, .int 1, n3, m3, 1, 1, ⟨⟨p3, d3, rfl, hp3⟩, rfl, rd3, bd_small b3 (by decide), bd_small b4 (by decide)⟩, n1, rfl, fun H7 e7 => ?_⟩
      have hgt : R_gt (n3 * 1) (1 * m3) = true := by
        unfold R_gt
        have z := gt_of (B := b) (n := n3) (m := m3) b0 rd3.1 (by rw [Int.one_mul] at c3; rw [c3, Int.mul_one])
        exact decide_eq_true (by omega)
      rw [hgt]
      refine ⟨.bl true, _, rfl, rfl, by decide +kernel, rfl, _, rfl, if_false_of (by decide +kernel) ?_⟩
      refine fun x4 dx4 nx4 nd4 ne4 => init_intR (C := C) (CI := CI) (n := 6) (m := 3) nx4 nd4 ne4 (by decide) (by decide) fun G4 f4 hx4 => ⟨rfl, .rat (rN 6 3) (rD 6 3), .int 2, _, _, 2, 1, ⟨⟨x4, dx4, rfl, hx4⟩, rfl, red_rn (by decide), small_six.1, small_six.2⟩, ⟨rfl, rfl, red_int 2, small_2, small_one⟩, rfl, fun H8 e8 => ⟨_, rfl, if_true_of six_three ?_⟩⟩
      refine ⟨rfl, rfl, fun x5 dx5 nx5 nd5 ne5 => init_intR (C := C) (CI := CI) (n := 5) (m := 1) nx5 nd5 ne5 (by decide) (by decide) fun G5 f5 hx5 => ⟨rfl, .rat (rN 5 1) (rD 5 1), _, rfl, ⟨x5, dx5, rfl, hx5⟩, shw_5, rfl, _, rfl, if_true_of (by rw [txt_5]; exact decide_eq_true rfl) ?_⟩⟩
      refine ⟨4, rfl, rfl, rfl, fun x6 dx6 nx6 nd6 ne6 => init_intR (C := C) (CI := CI) (n := 2) (m := -4) nx6 nd6 ne6 (by decide) (by decide) fun G6 f6 hx6 => ⟨rfl, .rat (rN 2 (-4)) (rD 2 (-4)), _, rfl, ⟨x6, dx6, rfl, hx6⟩, shw_half, rfl, ?_⟩⟩
      have e : decide (V.str (txt (.rat (rN 2 (-4)) (rD 2 (-4)))) = V.str "-1/2") = true := by
        rw [txt_half]
        exact decide_eq_true rfl
      show Q (.bl (decide (V.str (txt (.rat (rN 2 (-4)) (rD 2 (-4)))) = V.str "-1/2"))) _
      rw [e]
      exact k _
end
end Fu

namespace Fu
open PySem L2
open PyProof.Rows hiding St
open L2H (RoomH roomH_of)
theorem kit_rt {K : PySem.W.Frag} {C : Addr} {T : String} {b : Bool} (h : PySem.W.subIn K (.ref C) (.type T) = some b) (m : PySem.W.kitMeta T = true) : PySem.W.kitOne K (.ref C) (.type T) = some b := by
  have e : PySem.W.kitOne K (.ref C) (.type T) = (if PySem.W.kitMeta T = true then PySem.W.subIn K (.ref C) (.type T) else none) := rfl
  rw [e, if_pos m, h]
theorem kit_tr {K : PySem.W.Frag} {C : Addr} {T : String} (h : PySem.W.subIn K (.type T) (.ref C) = some false) (h2 : PySem.W.isClsIn K C = true) (h3 : PySem.W.typeIn K (.ref C) = some (.type "type")) : PySem.W.kitOne K (.type T) (.ref C) = some false := by
  have e2 : ((PySem.W.clsIn K C).isSome && PySem.W.typeIn K (.ref C) == some (.type "type")) = true := by
    have h2' : (PySem.W.clsIn K C).isSome = true := h2
    rw [h2', h3] <;> rfl
  have e : PySem.W.kitOne K (.type T) (.ref C) = (if ((PySem.W.clsIn K C).isSome && PySem.W.typeIn K (.ref C) == some (.type "type")) = true then PySem.W.subIn K (.type T) (.ref C) else none) := rfl
  rw [e, if_pos e2, h]
theorem exm_self {K : PySem.W.Frag} {S : Addr} (h1 : PySem.W.subIn K (.ref S) (.type "BaseException") = some true) (h2 : PySem.W.isClsIn K S = true) (h3 : PySem.W.typeIn K (.ref S) = some (.type "type")) (h4 : PySem.W.subIn K (.ref S) (.ref S) = some true) :
    PySem.W.exmOne K (.ref S) (.ref S) = some true := by
  have e1 : (PySem.W.subIn K (.ref S) (.type "BaseException") == some true) = true := by rw [h1] <;> rfl
  have e2 : ((PySem.W.clsIn K S).isSome && PySem.W.typeIn K (.ref S) == some (.type "type")) = true := by
    have h2' : (PySem.W.clsIn K S).isSome = true := h2
    rw [h2', h3] <;> rfl
  show (if (PySem.W.subIn K (.ref S) (.type "BaseException") == some true) = true then (if ((PySem.W.clsIn K S).isSome && PySem.W.typeIn K (.ref S) == some (.type "type")) = true then PySem.W.subIn K (.ref S) (.ref S) else none) else none) = some true
  rw [if_pos e1, if_pos e2]
  exact h4
theorem vals_rev {vs : List V} {us : List Value} (h : Vals vs us) : Vals vs.reverse us.reverse := by
  induction h with
  | nil => exact .nil
  | cons r _ ih =>
    rw [List.reverse_cons, List.reverse_cons]
    exact ih.append (.cons r .nil)

theorem all_mk {l : PySem.W.OpenLaw} {w : World} {K : PySem.W.Frag} {h : Heap} {mg : Str → Option Value} {fa : Addr} (X : K.In h) (G : h.Ns mainGlobals mg) (hfa : mg "law" = some (.ref fa))
    {C CI fii fgcd fisn fpar fpool ftake fdr fis fsi fpa fon flaw fX feq fov frp fst ffl fadd fradd fsub frsub fmul frmul flt fle fgt fge fneg fabs fbool finit Tinit pbot fbot ptop ftop : Addr} {odii anii odgcd angcd odisn anisn odpar anpar odpool anpool odtake antake oddr andr odis anis odsi ansi odpa anpa odon anon odlaw anlaw odX anX odeq aneq odov anov odrp anrp odst anst odfl anfl odadd anadd odradd anradd odsub ansub odrsub anrsub odmul anmul odrmul anrmul odlt anlt odle anle odgt angt odge ange odneg anneg odabs anabs odbool anbool odinit aninit oUinit odbot anbot odtop antop : Option Addr} {slii slgcd slisn slpar slpool sltake sldr slis slsi slpa slon sllaw slX sleq slov slrp slst slfl sladd slradd slsub slrsub slmul slrmul sllt slle slgt slge slneg slabs slbool slinit sTinit slbot sltop : Array (Option Value)} {ocii kVii dcii pmii cdii ctii ocgcd kVgcd dcgcd pmgcd cdgcd ctgcd ocisn kVisn dcisn pmisn cdisn ctisn ocpar kVpar dcpar pmpar cdpar ctpar ocpool kVpool dcpool pmpool cdpool ctpool octake kVtake dctake pmtake cdtake cttake ocdr kVdr dcdr pmdr cddr ctdr ocis kVis dcis pmis cdis ctis ocsi kVsi dcsi pmsi cdsi ctsi ocpa kVpa dcpa pmpa cdpa ctpa ocon kVon dcon pmon cdon cton oclaw kVlaw dclaw pmlaw cdlaw ctlaw ocX kVX dcX pmX cdX ctX oceq kVeq dceq pmeq cdeq cteq ocov kVov dcov pmov cdov ctov ocrp kVrp dcrp pmrp cdrp ctrp ocst kVst dcst pmst cdst ctst ocfl kVfl dcfl pmfl cdfl ctfl ocadd kVadd dcadd pmadd cdadd ctadd ocradd kVradd dcradd pmradd cdradd ctradd ocsub kVsub dcsub pmsub cdsub ctsub ocrsub kVrsub dcrsub pmrsub cdrsub ctrsub ocmul kVmul dcmul pmmul cdmul ctmul ocrmul kVrmul dcrmul pmrmul cdrmul ctrmul oclt kVlt dclt pmlt cdlt ctlt ocle kVle dcle pmle cdle ctle ocgt kVgt dcgt pmgt cdgt ctgt ocge kVge dcge pmge cdge ctge ocneg kVneg dcneg pmneg cdneg ctneg ocabs kVabs dcabs pmabs cdabs ctabs ocbool kVbool dcbool pmbool cdbool ctbool ocinit kVinit dcinit pminit cdinit ctinit oTinit ocbot kVbot dcbot pmbot cdbot ctbot octop kVtop dctop pmtop cdtop cttop : Value}
    {nTinit : Nat} {tkinit : Tok}
    {rsbot : List Value}
    {rstop : List Value}
    {CN : Addr} {nm q : Str} {N : Addr} {bs : List Value} {sn : List Str} {sub : List Value} {ab : Bool} {col : Option Bool} {dd : Option Addr} {m0 m1 m2 m3 m5 : Option Value}
    (zaC : PySem.W.nsIn K mainGlobals "Ratio" = some (some (.ref C)))
    (zaCI : PySem.W.nsIn K mainGlobals "InvalidNumber" = some (some (.ref CI)))
    (zaii : PySem.W.nsIn K mainGlobals "is_integer" = some (some (.ref fii)))
    (zlii : K.lookup fii = some ⟨ocii, odii, .func (PySem.W.fnOf "is_integer" "is_integer" (defArgs sIsInt) (defBody sIsInt) (defScope sIsInt) .none kVii dcii pmii anii cdii ctii), slii⟩)
    (zcii : PySem.W.codeIn K cdii "is_integer" = true)
    (zkii : PySem.W.keepIn K (.ref fii) = true)
    (zagcd : PySem.W.nsIn K mainGlobals "common_divisor" = some (some (.ref fgcd)))
    (zlgcd : K.lookup fgcd = some ⟨ocgcd, odgcd, .func (PySem.W.fnOf "common_divisor" "common_divisor" (defArgs sGcd) (defBody sGcd) (defScope sGcd) .none kVgcd dcgcd pmgcd angcd cdgcd ctgcd), slgcd⟩)
    (zcgcd : PySem.W.codeIn K cdgcd "common_divisor" = true)
    (zkgcd : PySem.W.keepIn K (.ref fgcd) = true)
    (zaisn : PySem.W.nsIn K mainGlobals "is_number" = some (some (.ref fisn)))
    (zlisn : K.lookup fisn = some ⟨ocisn, odisn, .func (PySem.W.fnOf "is_number" "is_number" (defArgs sIsNum) (defBody sIsNum) (defScope sIsNum) .none kVisn dcisn pmisn anisn cdisn ctisn), slisn⟩)
    (zcisn : PySem.W.codeIn K cdisn "is_number" = true)
    (zkisn : PySem.W.keepIn K (.ref fisn) = true)
    (zapar : PySem.W.nsIn K mainGlobals "parts_of" = some (some (.ref fpar)))
    (zlpar : K.lookup fpar = some ⟨ocpar, odpar, .func (PySem.W.fnOf "parts_of" "parts_of" (defArgs sParts) (defBody sParts) (defScope sParts) .none kVpar dcpar pmpar anpar cdpar ctpar), slpar⟩)
    (zcpar : PySem.W.codeIn K cdpar "parts_of" = true)
    (zkpar : PySem.W.keepIn K (.ref fpar) = true)
    (zapool : PySem.W.nsIn K mainGlobals "_law_pool" = some (some (.ref fpool)))
    (zlpool : K.lookup fpool = some ⟨ocpool, odpool, .func (PySem.W.fnOf "_law_pool" "_law_pool" (defArgs sPool) (defBody sPool) (defScope sPool) .none kVpool dcpool pmpool anpool cdpool ctpool), slpool⟩)
    (zcpool : PySem.W.codeIn K cdpool "_law_pool" = true)
    (zkpool : PySem.W.keepIn K (.ref fpool) = true)
    (zatake : PySem.W.nsIn K mainGlobals "_law_take" = some (some (.ref ftake)))
    (zltake : K.lookup ftake = some ⟨octake, odtake, .func (PySem.W.fnOf "_law_take" "_law_take" (defArgs sTake) (defBody sTake) (defScope sTake) .none kVtake dctake pmtake antake cdtake cttake), sltake⟩)
    (zctake : PySem.W.codeIn K cdtake "_law_take" = true)
    (zktake : PySem.W.keepIn K (.ref ftake) = true)
    (zadr : PySem.W.nsIn K mainGlobals "_law_drawn" = some (some (.ref fdr)))
    (zldr : K.lookup fdr = some ⟨ocdr, oddr, .func (PySem.W.fnOf "_law_drawn" "_law_drawn" (defArgs s_law_drawn) (defBody s_law_drawn) (defScope s_law_drawn) .none kVdr dcdr pmdr andr cddr ctdr), sldr⟩)
    (zcdr : PySem.W.codeIn K cddr "_law_drawn" = true)
    (zkdr : PySem.W.keepIn K (.ref fdr) = true)
    (zais : PySem.W.nsIn K mainGlobals "_law_is" = some (some (.ref fis)))
    (zlis : K.lookup fis = some ⟨ocis, odis, .func (PySem.W.fnOf "_law_is" "_law_is" (defArgs s_law_is) (defBody s_law_is) (defScope s_law_is) .none kVis dcis pmis anis cdis ctis), slis⟩)
    (zcis : PySem.W.codeIn K cdis "_law_is" = true)
    (zkis : PySem.W.keepIn K (.ref fis) = true)
    (zasi : PySem.W.nsIn K mainGlobals "_law_signs_right" = some (some (.ref fsi)))
    (zlsi : K.lookup fsi = some ⟨ocsi, odsi, .func (PySem.W.fnOf "_law_signs_right" "_law_signs_right" (defArgs s_law_signs_right) (defBody s_law_signs_right) (defScope s_law_signs_right) .none kVsi dcsi pmsi ansi cdsi ctsi), slsi⟩)
    (zcsi : PySem.W.codeIn K cdsi "_law_signs_right" = true)
    (zksi : PySem.W.keepIn K (.ref fsi) = true)
    (zapa : PySem.W.nsIn K mainGlobals "_law_pair_right" = some (some (.ref fpa)))
    (zlpa : K.lookup fpa = some ⟨ocpa, odpa, .func (PySem.W.fnOf "_law_pair_right" "_law_pair_right" (defArgs s_law_pair_right) (defBody s_law_pair_right) (defScope s_law_pair_right) .none kVpa dcpa pmpa anpa cdpa ctpa), slpa⟩)
    (zcpa : PySem.W.codeIn K cdpa "_law_pair_right" = true)
    (zkpa : PySem.W.keepIn K (.ref fpa) = true)
    (zaon : PySem.W.nsIn K mainGlobals "_law_one_right" = some (some (.ref fon)))
    (zlon : K.lookup fon = some ⟨ocon, odon, .func (PySem.W.fnOf "_law_one_right" "_law_one_right" (defArgs s_law_one_right) (defBody s_law_one_right) (defScope s_law_one_right) .none kVon dcon pmon anon cdon cton), slon⟩)
    (zcon : PySem.W.codeIn K cdon "_law_one_right" = true)
    (zkon : PySem.W.keepIn K (.ref fon) = true)
    (zalaw : PySem.W.nsIn K mainGlobals "law" = some (some (.ref flaw)))
    (zllaw : K.lookup flaw = some ⟨oclaw, odlaw, .func (PySem.W.fnOf "law" "law" (defArgs sLaw) (defBody sLaw) (defScope sLaw) .none kVlaw dclaw pmlaw anlaw cdlaw ctlaw), sllaw⟩)
    (zclaw : PySem.W.codeIn K cdlaw "law" = true)
    (zklaw : PySem.W.keepIn K (.ref flaw) = true)
    (zaX : PySem.W.findIn K (.ref CI) "__init__" = some (some (.ref fX)))
    (ziX : PySem.W.isFn K (.ref fX) = true)
    (zlX : K.lookup fX = some ⟨ocX, odX, .func (PySem.W.fnOf "__init__" "InvalidNumber.__init__" (defArgs sInvNum) (defBody sInvNum) (defScope sInvNum) .none kVX dcX pmX anX cdX ctX), slX⟩)
    (zcX : PySem.W.codeIn K cdX "InvalidNumber.__init__" = true)
    (zkX : PySem.W.keepIn K (.ref fX) = true)
    (zaeq : PySem.W.findIn K (.ref C) "__eq__" = some (some (.ref feq)))
    (zieq : PySem.W.isFn K (.ref feq) = true)
    (zleq : K.lookup feq = some ⟨oceq, odeq, .func (PySem.W.fnOf "__eq__" "Ratio.__eq__" (defArgs sEq) (defBody sEq) (defScope sEq) .none kVeq dceq pmeq aneq cdeq cteq), sleq⟩)
    (zceq : PySem.W.codeIn K cdeq "Ratio.__eq__" = true)
    (zkeq : PySem.W.keepIn K (.ref feq) = true)
    (zaov : PySem.W.findIn K (.ref C) "over" = some (some (.ref fov)))
    (ziov : PySem.W.isFn K (.ref fov) = true)
    (zlov : K.lookup fov = some ⟨ocov, odov, .func (PySem.W.fnOf "over" "Ratio.over" (defArgs sOver) (defBody sOver) (defScope sOver) .none kVov dcov pmov anov cdov ctov), slov⟩)
    (zcov : PySem.W.codeIn K cdov "Ratio.over" = true)
    (zkov : PySem.W.keepIn K (.ref fov) = true)
    (zarp : PySem.W.findIn K (.ref C) "__repr__" = some (some (.ref frp)))
    (zirp : PySem.W.isFn K (.ref frp) = true)
    (zlrp : K.lookup frp = some ⟨ocrp, odrp, .func (PySem.W.fnOf "__repr__" "Ratio.__repr__" (defArgs sRepr) (defBody sRepr) (defScope sRepr) .none kVrp dcrp pmrp anrp cdrp ctrp), slrp⟩)
    (zcrp : PySem.W.codeIn K cdrp "Ratio.__repr__" = true)
    (zkrp : PySem.W.keepIn K (.ref frp) = true)
    (zast : PySem.W.findIn K (.ref C) "__str__" = some (some (.ref fst)))
    (zist : PySem.W.isFn K (.ref fst) = true)
    (zlst : K.lookup fst = some ⟨ocst, odst, .func (PySem.W.fnOf "__str__" "Ratio.__str__" (defArgs sRatio_str) (defBody sRatio_str) (defScope sRatio_str) .none kVst dcst pmst anst cdst ctst), slst⟩)
    (zcst : PySem.W.codeIn K cdst "Ratio.__str__" = true)
    (zkst : PySem.W.keepIn K (.ref fst) = true)
    (zafl : PySem.W.findIn K (.ref C) "floor" = some (some (.ref ffl)))
    (zifl : PySem.W.isFn K (.ref ffl) = true)
    (zlfl : K.lookup ffl = some ⟨ocfl, odfl, .func (PySem.W.fnOf "floor" "Ratio.floor" (defArgs sRatio_floor) (defBody sRatio_floor) (defScope sRatio_floor) .none kVfl dcfl pmfl anfl cdfl ctfl), slfl⟩)
    (zcfl : PySem.W.codeIn K cdfl "Ratio.floor" = true)
    (zkfl : PySem.W.keepIn K (.ref ffl) = true)
    (zaadd : PySem.W.findIn K (.ref C) "__add__" = some (some (.ref fadd)))
    (ziadd : PySem.W.isFn K (.ref fadd) = true)
    (zladd : K.lookup fadd = some ⟨ocadd, odadd, .func (PySem.W.fnOf "__add__" "Ratio.__add__" (defArgs sRatio_add) (defBody sRatio_add) (defScope sRatio_add) .none kVadd dcadd pmadd anadd cdadd ctadd), sladd⟩)
    (zcadd : PySem.W.codeIn K cdadd "Ratio.__add__" = true)
    (zkadd : PySem.W.keepIn K (.ref fadd) = true)
    (zaradd : PySem.W.findIn K (.ref C) "__radd__" = some (some (.ref fradd)))
    (ziradd : PySem.W.isFn K (.ref fradd) = true)
    (zlradd : K.lookup fradd = some ⟨ocradd, odradd, .func (PySem.W.fnOf "__radd__" "Ratio.__radd__" (defArgs sRatio_radd) (defBody sRatio_radd) (defScope sRatio_radd) .none kVradd dcradd pmradd anradd cdradd ctradd), slradd⟩)
    (zcradd : PySem.W.codeIn K cdradd "Ratio.__radd__" = true)
    (zkradd : PySem.W.keepIn K (.ref fradd) = true)
    (zasub : PySem.W.findIn K (.ref C) "__sub__" = some (some (.ref fsub)))
    (zisub : PySem.W.isFn K (.ref fsub) = true)
    (zlsub : K.lookup fsub = some ⟨ocsub, odsub, .func (PySem.W.fnOf "__sub__" "Ratio.__sub__" (defArgs sRatio_sub) (defBody sRatio_sub) (defScope sRatio_sub) .none kVsub dcsub pmsub ansub cdsub ctsub), slsub⟩)
    (zcsub : PySem.W.codeIn K cdsub "Ratio.__sub__" = true)
    (zksub : PySem.W.keepIn K (.ref fsub) = true)
    (zarsub : PySem.W.findIn K (.ref C) "__rsub__" = some (some (.ref frsub)))
    (zirsub : PySem.W.isFn K (.ref frsub) = true)
    (zlrsub : K.lookup frsub = some ⟨ocrsub, odrsub, .func (PySem.W.fnOf "__rsub__" "Ratio.__rsub__" (defArgs sRatio_rsub) (defBody sRatio_rsub) (defScope sRatio_rsub) .none kVrsub dcrsub pmrsub anrsub cdrsub ctrsub), slrsub⟩)
    (zcrsub : PySem.W.codeIn K cdrsub "Ratio.__rsub__" = true)
    (zkrsub : PySem.W.keepIn K (.ref frsub) = true)
    (zamul : PySem.W.findIn K (.ref C) "__mul__" = some (some (.ref fmul)))
    (zimul : PySem.W.isFn K (.ref fmul) = true)
    (zlmul : K.lookup fmul = some ⟨ocmul, odmul, .func (PySem.W.fnOf "__mul__" "Ratio.__mul__" (defArgs sRatio_mul) (defBody sRatio_mul) (defScope sRatio_mul) .none kVmul dcmul pmmul anmul cdmul ctmul), slmul⟩)
    (zcmul : PySem.W.codeIn K cdmul "Ratio.__mul__" = true)
    (zkmul : PySem.W.keepIn K (.ref fmul) = true)
    (zarmul : PySem.W.findIn K (.ref C) "__rmul__" = some (some (.ref frmul)))
    (zirmul : PySem.W.isFn K (.ref frmul) = true)
    (zlrmul : K.lookup frmul = some ⟨ocrmul, odrmul, .func (PySem.W.fnOf "__rmul__" "Ratio.__rmul__" (defArgs sRatio_rmul) (defBody sRatio_rmul) (defScope sRatio_rmul) .none kVrmul dcrmul pmrmul anrmul cdrmul ctrmul), slrmul⟩)
    (zcrmul : PySem.W.codeIn K cdrmul "Ratio.__rmul__" = true)
    (zkrmul : PySem.W.keepIn K (.ref frmul) = true)
    (zalt : PySem.W.findIn K (.ref C) "__lt__" = some (some (.ref flt)))
    (zilt : PySem.W.isFn K (.ref flt) = true)
    (zllt : K.lookup flt = some ⟨oclt, odlt, .func (PySem.W.fnOf "__lt__" "Ratio.__lt__" (defArgs sRatio_lt) (defBody sRatio_lt) (defScope sRatio_lt) .none kVlt dclt pmlt anlt cdlt ctlt), sllt⟩)
    (zclt : PySem.W.codeIn K cdlt "Ratio.__lt__" = true)
    (zklt : PySem.W.keepIn K (.ref flt) = true)
    (zale : PySem.W.findIn K (.ref C) "__le__" = some (some (.ref fle)))
    (zile : PySem.W.isFn K (.ref fle) = true)
    (zlle : K.lookup fle = some ⟨ocle, odle, .func (PySem.W.fnOf "__le__" "Ratio.__le__" (defArgs sRatio_le) (defBody sRatio_le) (defScope sRatio_le) .none kVle dcle pmle anle cdle ctle), slle⟩)
    (zcle : PySem.W.codeIn K cdle "Ratio.__le__" = true)
    (zkle : PySem.W.keepIn K (.ref fle) = true)
    (zagt : PySem.W.findIn K (.ref C) "__gt__" = some (some (.ref fgt)))
    (zigt : PySem.W.isFn K (.ref fgt) = true)
    (zlgt : K.lookup fgt = some ⟨ocgt, odgt, .func (PySem.W.fnOf "__gt__" "Ratio.__gt__" (defArgs sRatio_gt) (defBody sRatio_gt) (defScope sRatio_gt) .none kVgt dcgt pmgt angt cdgt ctgt), slgt⟩)
    (zcgt : PySem.W.codeIn K cdgt "Ratio.__gt__" = true)
    (zkgt : PySem.W.keepIn K (.ref fgt) = true)
    (zage : PySem.W.findIn K (.ref C) "__ge__" = some (some (.ref fge)))
    (zige : PySem.W.isFn K (.ref fge) = true)
    (zlge : K.lookup fge = some ⟨ocge, odge, .func (PySem.W.fnOf "__ge__" "Ratio.__ge__" (defArgs sRatio_ge) (defBody sRatio_ge) (defScope sRatio_ge) .none kVge dcge pmge ange cdge ctge), slge⟩)
    (zcge : PySem.W.codeIn K cdge "Ratio.__ge__" = true)
    (zkge : PySem.W.keepIn K (.ref fge) = true)
    (zaneg : PySem.W.findIn K (.ref C) "__neg__" = some (some (.ref fneg)))
    (zineg : PySem.W.isFn K (.ref fneg) = true)
    (zlneg : K.lookup fneg = some ⟨ocneg, odneg, .func (PySem.W.fnOf "__neg__" "Ratio.__neg__" (defArgs sRatio_neg) (defBody sRatio_neg) (defScope sRatio_neg) .none kVneg dcneg pmneg anneg cdneg ctneg), slneg⟩)
    (zcneg : PySem.W.codeIn K cdneg "Ratio.__neg__" = true)
    (zkneg : PySem.W.keepIn K (.ref fneg) = true)
    (zaabs : PySem.W.findIn K (.ref C) "__abs__" = some (some (.ref fabs)))
    (ziabs : PySem.W.isFn K (.ref fabs) = true)
    (zlabs : K.lookup fabs = some ⟨ocabs, odabs, .func (PySem.W.fnOf "__abs__" "Ratio.__abs__" (defArgs sRatio_abs) (defBody sRatio_abs) (defScope sRatio_abs) .none kVabs dcabs pmabs anabs cdabs ctabs), slabs⟩)
    (zcabs : PySem.W.codeIn K cdabs "Ratio.__abs__" = true)
    (zkabs : PySem.W.keepIn K (.ref fabs) = true)
    (zabool : PySem.W.findIn K (.ref C) "__bool__" = some (some (.ref fbool)))
    (zibool : PySem.W.isFn K (.ref fbool) = true)
    (zlbool : K.lookup fbool = some ⟨ocbool, odbool, .func (PySem.W.fnOf "__bool__" "Ratio.__bool__" (defArgs sRatio_bool) (defBody sRatio_bool) (defScope sRatio_bool) .none kVbool dcbool pmbool anbool cdbool ctbool), slbool⟩)
    (zcbool : PySem.W.codeIn K cdbool "Ratio.__bool__" = true)
    (zkbool : PySem.W.keepIn K (.ref fbool) = true)
    (zainit : PySem.W.findIn K (.ref C) "__init__" = some (some (.ref finit)))
    (ziinit : PySem.W.isFn K (.ref finit) = true)
    (zlinit : K.lookup finit = some ⟨ocinit, odinit, .func (PySem.W.fnOf "__init__" "Ratio.__init__" (defArgs sInit) (defBody sInit) (defScope sInit) (.ref Tinit) kVinit dcinit pminit aninit cdinit ctinit), slinit⟩)
    (zcinit : PySem.W.codeIn K cdinit "Ratio.__init__" = true)
    (zkinit : PySem.W.keepIn K (.ref finit) = true)
    (zdinit : K.lookup Tinit = some ⟨oTinit, oUinit, .seq #[.int 1 tkinit] nTinit, sTinit⟩)
    (zabot : PySem.W.findIn K (.ref C) "bottom" = some (some (.ref pbot)))
    (zgbot : PySem.W.specialIn K (.ref pbot) "__get__" = some (some (.builtin "property.__get__")))
    (ztbot : PySem.W.takesIn K (.ref pbot) = some true)
    (zrbot : PySem.W.recIn K pbot "property" = some (.ref fbot :: rsbot))
    (zlbot : K.lookup fbot = some ⟨ocbot, odbot, .func (PySem.W.fnOf "bottom" "Ratio.bottom" (defArgs sBot) (defBody sBot) (defScope sBot) .none kVbot dcbot pmbot anbot cdbot ctbot), slbot⟩)
    (zcbot : PySem.W.codeIn K cdbot "Ratio.bottom" = true)
    (zkbot : PySem.W.keepIn K (.ref fbot) = true)
    (zatop : PySem.W.findIn K (.ref C) "top" = some (some (.ref ptop)))
    (zgtop : PySem.W.specialIn K (.ref ptop) "__get__" = some (some (.builtin "property.__get__")))
    (zttop : PySem.W.takesIn K (.ref ptop) = some true)
    (zrtop : PySem.W.recIn K ptop "property" = some (.ref ftop :: rstop))
    (zltop : K.lookup ftop = some ⟨octop, odtop, .func (PySem.W.fnOf "top" "Ratio.top" (defArgs sRatio_top) (defBody sRatio_top) (defScope sRatio_top) .none kVtop dctop pmtop antop cdtop cttop), sltop⟩)
    (zctop : PySem.W.codeIn K cdtop "Ratio.top" = true)
    (zktop : PySem.W.keepIn K (.ref ftop) = true)
    (znisinstance : PySem.W.nsIn K mainGlobals "isinstance" = some none)
    (znint : PySem.W.nsIn K mainGlobals "int" = some none)
    (znbool : PySem.W.nsIn K mainGlobals "bool" = some none)
    (znabs : PySem.W.nsIn K mainGlobals "abs" = some none)
    (znlen : PySem.W.nsIn K mainGlobals "len" = some none)
    (znrange : PySem.W.nsIn K mainGlobals "range" = some none)
    (znmax : PySem.W.nsIn K mainGlobals "max" = some none)
    (znmin : PySem.W.nsIn K mainGlobals "min" = some none)
    (znrepr : PySem.W.nsIn K mainGlobals "repr" = some none)
    (znstr : PySem.W.nsIn K mainGlobals "str" = some none)
    (zxL : K.lookup CI = some (excClassObj nm q CI N bs [.ref CN, .type "ValueError", .type "Exception", .type "BaseException", .type "object"] true sn sub ab col dd m0 m1 m2 m3 m5 "ValueError.__new__"))
    (zeSa : PySem.W.findIn K (.ref CI) "__setattr__" = some (some (.builtin "object.__setattr__")))
    (zeGa : PySem.W.findIn K (.ref CI) "__getattribute__" = some (some (.builtin "BaseException.__getattribute__")))
    (zeGg : PySem.W.findIn K (.ref CI) "__getattr__" = some none)
    (zeV : PySem.W.findIn K (.ref CI) "value" = some none)
    (zeT1 : PySem.W.typeIn K (.ref fX) = some (.type "function"))
    (zeK : PySem.W.keepIn K (.ref CI) = true)
    (zeE : PySem.W.subIn K (.ref CI) (.type "BaseException") = some true)
    (zeT : PySem.W.typeIn K (.ref CI) = some (.type "type"))
    (zeH : PySem.W.hasDictIn K CI = true)
    (zeI : PySem.W.isClsIn K CI = true)
    (zeS : PySem.W.subIn K (.ref CI) (.ref CI) = some true)
    (zeC : PySem.W.findIn K (.ref CI) "__class__" = some (some (.builtin "object.__class__")))
    (zeM : PySem.W.mroIn K CI (.type "object") = some true)
    (zcPg : PySem.W.plainGet K C Str.empty = true)
    (zcHd : PySem.W.hasDictIn K C = true)
    (zcPo : PySem.W.plainOver K C = true)
    (zcSa : PySem.W.findIn K (.ref C) "__setattr__" = some (some (.builtin "object.__setattr__")))
    (zcMk : PySem.W.makesIn K C = true)
    (zcKc : PySem.W.keepIn K (.ref C) = true)
    (zcCl : PySem.W.findIn K (.ref C) "__class__" = some (some (.builtin "object.__class__")))
    (zcSp : PySem.W.specialIn K (.builtin "object.__class__") "__get__" = some (some (.builtin "getset_descriptor.__get__")))
    (zcTk : PySem.W.takesIn K (.builtin "object.__class__") = some true)
    (zcMo : PySem.W.mroIn K C (.type "object") = some true)
    (zcI : PySem.W.isClsIn K C = true)
    (zcT : PySem.W.typeIn K (.ref C) = some (.type "type"))
    (zcInt : PySem.W.subIn K (.ref C) (.type "int") = some false)
    (zcBool : PySem.W.subIn K (.ref C) (.type "bool") = some false)
    (zcTop : PySem.W.findIn K (.ref C) "own_top" = some none)
    (zcBot : PySem.W.findIn K (.ref C) "own_bottom" = some none)
    (zcNe : PySem.W.findIn K (.ref C) "__ne__" = some (some (.builtin "object.__ne__")))
    (zmNoneType : PySem.W.mroIn K C (.type "NoneType") = some false)
    (zmbool : PySem.W.mroIn K C (.type "bool") = some false)
    (zmint : PySem.W.mroIn K C (.type "int") = some false)
    (zmstr : PySem.W.mroIn K C (.type "str") = some false)
    (zmlist : PySem.W.mroIn K C (.type "list") = some false)
    (zmtuple : PySem.W.mroIn K C (.type "tuple") = some false)
    (zmdict : PySem.W.mroIn K C (.type "dict") = some false)
    (zcSf : PySem.W.selfFirst K C = true)
    (ziadd_ : PySem.W.findIn K (.type "int") "__add__" = some (some (.builtin "int.__add__")))
    (ziradd_ : PySem.W.findIn K (.type "int") "__radd__" = some (some (.builtin "int.__radd__")))
    (zisub_ : PySem.W.findIn K (.type "int") "__sub__" = some (some (.builtin "int.__sub__")))
    (zirsub_ : PySem.W.findIn K (.type "int") "__rsub__" = some (some (.builtin "int.__rsub__")))
    (zimul_ : PySem.W.findIn K (.type "int") "__mul__" = some (some (.builtin "int.__mul__")))
    (zirmul_ : PySem.W.findIn K (.type "int") "__rmul__" = some (some (.builtin "int.__rmul__")))
    : ∃ fd : FuncData, (∀ (s : Shared) (v : Value), BindsTo s fd ⟨[v], []⟩ [("_law_script", v)]) ∧ ∀ base : Heap, K.In base → base.Ns mainGlobals mg → FnG l.prog w K mg base CX0 9 fa fd ["_law_script"] (spLaw K) := by
  have e := hfa.symm.trans (PySem.W.mg_of X G zalaw)
  cases e
  have cl : Cls K C := ⟨zcPg, zcHd, zcPo, zcSa⟩
  have ci : ClsI K C := ⟨cl, zcCl, zcSp, zcTk, zcMo⟩
  have R : RatC K C := ⟨ci, kit_rt zcInt (by decide +kernel), kit_rt zcBool (by decide +kernel), zcTop, zcBot⟩
  have R2 : RatK K mg C := ⟨PySem.W.mg_of X G zaC, fun T hT => kit_tr (by simp only [List.mem_cons, List.not_mem_nil, or_false] at hT; rcases hT with h | h | h | h | h | h | h <;> (subst h; with_unfolding_all rfl)) zcI zcT⟩
  have NB : NoB K C := ⟨fun T hT => by simp only [List.mem_cons, List.not_mem_nil, or_false] at hT; rcases hT with h | h | h | h | h | h | h <;> (subst h; assumption)⟩
  have nn : ∀ x : Str, PySem.W.nsIn K mainGlobals x = some none → mg x = none := fun x h => PySem.W.mg_none_of X G h
  have B : Bt mg := ⟨nn _ znisinstance, nn _ znint, nn _ znbool, nn _ znabs⟩
  have Bu1 : Bu mg := ⟨nn _ znlen, nn _ znabs, nn _ znint⟩
  have Bl1 : Bl mg := ⟨nn _ znrange, nn _ znmax, nn _ znmin, nn _ znlen, nn _ znrepr⟩
  have oex : OexC K CI := ⟨⟨nm, q, N, bs, _, sn, sub, ab, col, dd, m0, m1, m2, m3, m5, zxL, rfl⟩, zeSa, zeE, zeT, zeK⟩
  have EC : ErrC K mg "InvalidNumber" "value" CI fX := ⟨oex, PySem.W.mg_of X G zaCI, zaX, zeT1, zeV, ⟨zeGa, zeGg, zeE, zeH⟩⟩
  have FX := fun_mk (st := sInvNum) zlX zcX zkX
  have bX := FX.binds (ps := ["self", "value"]) fun _ _ _ _ _ _ us hl => match us, hl with | [_, _], _ => rfl
  have Fii := fun_mk (st := sIsInt) zlii zcii zkii
  have bii := Fii.binds (ps := ["value"]) fun _ _ _ _ _ _ us hl => match us, hl with | [_], _ => rfl
  have Fgcd := fun_mk (st := sGcd) zlgcd zcgcd zkgcd
  have bgcd := Fgcd.binds (ps := ["one", "other"]) fun _ _ _ _ _ _ us hl => match us, hl with | [_, _], _ => rfl
  have Fisn := fun_mk (st := sIsNum) zlisn zcisn zkisn
  have bisn := Fisn.binds (ps := ["value"]) fun _ _ _ _ _ _ us hl => match us, hl with | [_], _ => rfl
  have Fpar := fun_mk (st := sParts) zlpar zcpar zkpar
  have bpar := Fpar.binds (ps := ["number"]) fun _ _ _ _ _ _ us hl => match us, hl with | [_], _ => rfl
  have Feq := fun_mk (st := sEq) zleq zceq zkeq
  have beq := Feq.binds (ps := ["self", "other"]) fun _ _ _ _ _ _ us hl => match us, hl with | [_, _], _ => rfl
  have Fov := fun_mk (st := sOver) zlov zcov zkov
  have bov := Fov.binds (ps := ["self", "other"]) fun _ _ _ _ _ _ us hl => match us, hl with | [_, _], _ => rfl
  have Frp := fun_mk (st := sRepr) zlrp zcrp zkrp
  have brp := Frp.binds (ps := ["self"]) fun _ _ _ _ _ _ us hl => match us, hl with | [_], _ => rfl
  have Fst := fun_mk (st := sRatio_str) zlst zcst zkst
  have bst := Fst.binds (ps := ["self"]) fun _ _ _ _ _ _ us hl => match us, hl with | [_], _ => rfl
  have Ffl := fun_mk (st := sRatio_floor) zlfl zcfl zkfl
  have bfl := Ffl.binds (ps := ["self"]) fun _ _ _ _ _ _ us hl => match us, hl with | [_], _ => rfl
  have Fpool := fun_mk (st := sPool) zlpool zcpool zkpool
  have bpool := Fpool.binds (ps := ["_law_script", "_law_k"]) fun _ _ _ _ _ _ us hl => match us, hl with | [_, _], _ => rfl
  have Ftake := fun_mk (st := sTake) zltake zctake zktake
  have btake := Ftake.binds (ps := ["_law_pool_here", "_law_many"]) fun _ _ _ _ _ _ us hl => match us, hl with | [_, _], _ => rfl
  have Fbot := fun_mk (st := sBot) zlbot zcbot zkbot
  have bbot := Fbot.binds (ps := ["self"]) fun _ _ _ _ _ _ us hl => match us, hl with | [_], _ => rfl
  have Ftop := fun_mk (st := sRatio_top) zltop zctop zktop
  have btop := Ftop.binds (ps := ["self"]) fun _ _ _ _ _ _ us hl => match us, hl with | [_], _ => rfl
  have Fdr := fun_mk (st := s_law_drawn) zldr zcdr zkdr
  have bdr := Fdr.binds (ps := ["_law_pool_here"]) fun _ _ _ _ _ _ us hl => match us, hl with | [_], _ => rfl
  have Fis := fun_mk (st := s_law_is) zlis zcis zkis
  have bis := Fis.binds (ps := ["_law_ratio", "_law_over_it", "_law_under_it"]) fun _ _ _ _ _ _ us hl => match us, hl with | [_, _, _], _ => rfl
  have Fsi := fun_mk (st := s_law_signs_right) zlsi zcsi zksi
  have bsi := Fsi.binds (ps := ["_law_one", "_law_other", "_law_first", "_law_second"]) fun _ _ _ _ _ _ us hl => match us, hl with | [_, _, _, _], _ => rfl
  have Fpa := fun_mk (st := s_law_pair_right) zlpa zcpa zkpa
  have bpa := Fpa.binds (ps := ["_law_one", "_law_other", "_law_first", "_law_second"]) fun _ _ _ _ _ _ us hl => match us, hl with | [_, _, _, _], _ => rfl
  have Fon := fun_mk (st := s_law_one_right) zlon zcon zkon
  have bon := Fon.binds (ps := ["_law_one", "_law_first"]) fun _ _ _ _ _ _ us hl => match us, hl with | [_, _], _ => rfl
  have Fadd := fun_mk (st := sRatio_add) zladd zcadd zkadd
  have badd := Fadd.binds (ps := ["self", "other"]) fun _ _ _ _ _ _ us hl => match us, hl with | [_, _], _ => rfl
  have Fradd := fun_mk (st := sRatio_radd) zlradd zcradd zkradd
  have bradd := Fradd.binds (ps := ["self", "other"]) fun _ _ _ _ _ _ us hl => match us, hl with | [_, _], _ => rfl
  have Fsub := fun_mk (st := sRatio_sub) zlsub zcsub zksub
  have bsub := Fsub.binds (ps := ["self", "other"]) fun _ _ _ _ _ _ us hl => match us, hl with | [_, _], _ => rfl
  have Frsub := fun_mk (st := sRatio_rsub) zlrsub zcrsub zkrsub
  have brsub := Frsub.binds (ps := ["self", "other"]) fun _ _ _ _ _ _ us hl => match us, hl with | [_, _], _ => rfl
  have Fmul := fun_mk (st := sRatio_mul) zlmul zcmul zkmul
  have bmul := Fmul.binds (ps := ["self", "other"]) fun _ _ _ _ _ _ us hl => match us, hl with | [_, _], _ => rfl
  have Frmul := fun_mk (st := sRatio_rmul) zlrmul zcrmul zkrmul
  have brmul := Frmul.binds (ps := ["self", "other"]) fun _ _ _ _ _ _ us hl => match us, hl with | [_, _], _ => rfl
  have Flt := fun_mk (st := sRatio_lt) zllt zclt zklt
  have blt := Flt.binds (ps := ["self", "other"]) fun _ _ _ _ _ _ us hl => match us, hl with | [_, _], _ => rfl
  have Fle := fun_mk (st := sRatio_le) zlle zcle zkle
  have ble := Fle.binds (ps := ["self", "other"]) fun _ _ _ _ _ _ us hl => match us, hl with | [_, _], _ => rfl
  have Fgt := fun_mk (st := sRatio_gt) zlgt zcgt zkgt
  have bgt := Fgt.binds (ps := ["self", "other"]) fun _ _ _ _ _ _ us hl => match us, hl with | [_, _], _ => rfl
  have Fge := fun_mk (st := sRatio_ge) zlge zcge zkge
  have bge := Fge.binds (ps := ["self", "other"]) fun _ _ _ _ _ _ us hl => match us, hl with | [_, _], _ => rfl
  have Fneg := fun_mk (st := sRatio_neg) zlneg zcneg zkneg
  have bneg := Fneg.binds (ps := ["self"]) fun _ _ _ _ _ _ us hl => match us, hl with | [_], _ => rfl
  have Fabs := fun_mk (st := sRatio_abs) zlabs zcabs zkabs
  have babs := Fabs.binds (ps := ["self"]) fun _ _ _ _ _ _ us hl => match us, hl with | [_], _ => rfl
  have Fbool := fun_mk (st := sRatio_bool) zlbool zcbool zkbool
  have bbool := Fbool.binds (ps := ["self"]) fun _ _ _ _ _ _ us hl => match us, hl with | [_], _ => rfl
  have Flaw := fun_mk (st := sLaw) zllaw zclaw zklaw
  have FI : FunD K "__init__" "Ratio.__init__" (defArgs sInit) (defBody sInit) (defScope sInit) [.int 1] [] finit _ := ⟨⟨_, _, _, _, _, _, _, _, _, _, rfl, zlinit, zcinit, .inr ⟨by simp, Tinit, _, [.int 1 tkinit], nTinit, rfl, zdinit, rfl, .cons ⟨tkinit, rfl⟩ .nil⟩, .inl rfl⟩, zkinit⟩
  obtain ⟨d0, hd0, bi2⟩ := FI.binds1 (ps := ["self", "top", "bottom"]) 3 1 (by simp) rfl fun T kV doc pm an cdv ct us its hu hi => by
    match us, hu, its, hi with
    | [_, _, _], _, [_], _ => exact ⟨_, rfl, rfl⟩
  cases hd0
  obtain ⟨ds, hds, bi1⟩ := FI.binds1 (ps := ["self", "top", "bottom"]) 2 0 (by simp) rfl fun T kV doc pm an cdv ct us its hu hi => by
    match us, hu, its, hi with
    | [_, _], _, [_], _ => exact ⟨_, rfl, rfl⟩
  obtain ⟨its1, k1⟩ := FI.kbindsD (ps := ["self", "top", "bottom"]) 1 ["top"] (fun us its ws => us ++ (ws ++ its)) (by simp) (fun r1 r2 r3 => r1.append (r3.append r2)) fun T kV doc pm an cdv ct us its ws hu hi hw => by
    match us, hu, its, hi, ws, hw with
    | [_], _, [_], _, [_], _ => exact ⟨_, rfl, rfl⟩
  obtain ⟨its2, k2⟩ := FI.kbindsD (ps := ["self", "top", "bottom"]) 1 ["bottom", "top"] (fun us its ws => us ++ ws.reverse) (by simp) (fun r1 r2 r3 => r1.append (vals_rev r3)) fun T kV doc pm an cdv ct us its ws hu hi hw => by
    match us, hu, its, hi, ws, hw with
    | [_], _, [_], _, [_, _], _ => exact ⟨_, rfl, rfl⟩
  refine ⟨PySem.W.fnOf "law" "law" (defArgs sLaw) (defBody sLaw) (defScope sLaw) .none kVlaw dclaw pmlaw anlaw cdlaw ctlaw, fun s v => .of_eq rfl, fun base _ _ => ?_⟩
  · have okX : FnOk l.prog w K mg base CX0 1 fX _ ["self", "value"] (spX CI "value") := ok_xinit FX EC rfl ⟨rfl, rfl, rfl, by decide +kernel, rfl, by decide +kernel, by decide +kernel⟩ (fun env => rfl) (.inl rfl) (.inl rfl) (by decide) (by decide)
    have I : IN l.prog w K mg base CI fX _ := ⟨EC, okX, bX⟩
    have Gii : Def l.prog w K mg base CX0 1 "is_integer" ["value"] (spIsInt C) fii _ := ⟨ok_isInt Fii B R, PySem.W.mg_of X G zaii, zkii, bii⟩
    have Ggcd : Def l.prog w K mg base CX0 1 "common_divisor" ["one", "other"] spGcd fgcd _ := ⟨ok_gcd Fgcd B, PySem.W.mg_of X G zagcd, zkgcd, bgcd⟩
    have Gisn : Def l.prog w K mg base CX0 2 "is_number" ["value"] (spIsNum C) fisn _ := ⟨ok_isNum Fisn B R R2 Gii, PySem.W.mg_of X G zaisn, zkisn, bisn⟩
    have Gpar : Def l.prog w K mg base CX0 1 "parts_of" ["number"] (spParts C) fpar _ := ⟨ok_parts Fpar B R R2, PySem.W.mg_of X G zapar, zkpar, bpar⟩
    have M : RatM l.prog w K mg base C CI finit _ ds := ⟨⟨zcMk, zainit, ziinit, zcKc⟩, ok_init FI B R I Gii Ggcd, bi2, bi1, hds⟩
    have Geq : FnOk l.prog w K mg base CX0 3 feq _ ["self", "other"] (spEqR C) := ok_eq Feq R Gisn Gpar
    have Gov := ok_over (P := l.prog) (w := w) (base := base) Fov R R2 I Gisn Gpar M Geq beq zaeq zieq
    have T : ReprC l.prog w K mg base C frp _ (spRepr C) := ⟨ok_repr Frp (nn _ znstr) R, zarp, zirp, brp⟩
    have Gadd := ok_add (P := l.prog) (w := w) (base := base) Fadd R R2 Gisn Gpar M
    have Gsub := ok_sub (P := l.prog) (w := w) (base := base) Fsub R R2 Gisn Gpar M
    have Gmul := ok_mul (P := l.prog) (w := w) (base := base) Fmul R R2 Gisn Gpar M
    have Gneg := ok_neg (P := l.prog) (w := w) (base := base) Fneg B R R2 M
    have Gabs := ok_abs (P := l.prog) (w := w) (base := base) Fabs B R R2 M
    have Oadd : OwnB K C .Add fadd fradd := ⟨⟨zaadd, ziadd⟩, ⟨zaradd, ziradd⟩, zcSf, ⟨_, ziadd_, PySem.F.slot_int_add, by decide +kernel, fun P w A E s x dx i t Q hx h => PySem.W.fu_dI_add hx h⟩, ⟨_, ziradd_⟩, zcInt⟩
    have Osub : OwnB K C .Sub fsub frsub := ⟨⟨zasub, zisub⟩, ⟨zarsub, zirsub⟩, zcSf, ⟨_, zisub_, PySem.F.slot_int_sub, by decide +kernel, fun P w A E s x dx i t Q hx h => PySem.W.fu_dI_sub hx h⟩, ⟨_, zirsub_⟩, zcInt⟩
    have Omul : OwnB K C .Mult fmul frmul := ⟨⟨zamul, zimul⟩, ⟨zarmul, zirmul⟩, zcSf, ⟨_, zimul_, PySem.F.slot_int_mul, by decide +kernel, fun P w A E s x dx i t Q hx h => PySem.W.fu_dI_mul hx h⟩, ⟨_, zirmul_⟩, zcInt⟩
    have O : RatO l.prog w K mg base C := ⟨R, R2, NB, zcNe, ⟨fadd, fradd, _, _, Gadd, ok_radd Fradd Gadd Oadd badd, Oadd, badd, bradd⟩, ⟨fsub, frsub, _, _, Gsub, ok_rsub Frsub Gadd Oadd badd Gneg ⟨zaneg, zineg⟩ bneg, Osub, bsub, brsub⟩, ⟨fmul, frmul, _, _, Gmul, ok_rmul Frmul Gmul Omul bmul, Omul, bmul, brmul⟩,
      ⟨feq, _, Geq, ⟨zaeq, zieq⟩, beq, zkeq⟩, ⟨flt, _, ok_lt Flt R Gisn Gpar, ⟨zalt, zilt⟩, blt, zklt⟩, ⟨fle, _, ok_le Fle R Gisn Gpar, ⟨zale, zile⟩, ble, zkle⟩, ⟨fgt, _, ok_gt Fgt R Gisn Gpar, ⟨zagt, zigt⟩, bgt, zkgt⟩, ⟨fge, _, ok_ge Fge R Gisn Gpar, ⟨zage, zige⟩, bge, zkge⟩,
      ⟨fneg, _, Gneg, ⟨zaneg, zineg⟩, bneg, zkneg⟩, ⟨fabs, _, Gabs, ⟨zaabs, ziabs⟩, babs, zkabs⟩, ⟨fbool, _, ok_bool Fbool B R, ⟨zabool, zibool⟩, bbool, zkbool⟩, ⟨ffl, _, ok_floor Ffl R, ⟨zafl, zifl⟩, bfl, zkfl⟩, ⟨fst, _, (ok_str Fst (nn _ znstr) R).calm, ⟨zast, zist⟩, bst, zkst⟩⟩
    have Gpool : Def l.prog w K mg base CX0 1 "_law_pool" ["_law_script", "_law_k"] (spPool K) fpool _ := ⟨ok_pool Fpool Bu1, PySem.W.mg_of X G zapool, zkpool, bpool⟩
    have Gtake : Def l.prog w K mg base CX0 1 "_law_take" ["_law_pool_here", "_law_many"] spTake ftake _ := ⟨ok_take Ftake, PySem.W.mg_of X G zatake, zktake, btake⟩
    have Gtop : FnOk l.prog w K mg base CX0 1 ftop _ ["self"] (getSp C "own_top") := fn_getter (k := 0) zltop zctop (N := ["self"]) ⟨rfl, rfl, rfl, by decide +kernel, rfl, by decide +kernel, by decide +kernel⟩ rfl rfl cl zcTop
    have Gbot : FnOk l.prog w K mg base CX0 1 fbot _ ["self"] (getSp C "own_bottom") := fn_getter (k := 0) zlbot zcbot (N := ["self"]) ⟨rfl, rfl, rfl, by decide +kernel, rfl, by decide +kernel, by decide +kernel⟩ rfl rfl cl zcBot
    have RP : RatP l.prog w K mg base C ptop ftop pbot fbot _ _ := ⟨⟨zatop, zgtop, zttop, _, zrtop⟩, ⟨zabot, zgbot, ztbot, _, zrbot⟩, Gtop, Gbot, btop, bbot⟩
    have Gdr : Def l.prog w K mg base CX0 2 "_law_drawn" ["_law_pool_here"] spDrawn fdr _ := ⟨ok_drawn Fdr Gtake, PySem.W.mg_of X G zadr, zkdr, bdr⟩
    have Gis : Def l.prog w K mg base CX0 3 "_law_is" ["_law_ratio", "_law_over_it", "_law_under_it"] (spIs C) fis _ := ⟨ok_is Fis B (nn _ znrange) R R2 RP, PySem.W.mg_of X G zais, zkis, bis⟩
    have Gsi := ok_signs (P := l.prog) (w := w) (base := base) Fsi (nn _ znrepr) O T
    have Gpa := ok_pair (P := l.prog) (w := w) (base := base) Fpa O Gis Gsi (PySem.W.mg_of X G zasi) zksi bsi
    have Gon := ok_one (P := l.prog) (w := w) (base := base) Fon B (nn _ znrepr) (nn _ znstr) O RP Gis T
    have Lc : Calls10 l.prog w K mg base C CI fpool fdr fis fon fpa fov _ _ _ _ _ _ := ⟨Gpool, Gdr, Gis, Gon, PySem.W.mg_of X G zaon, zkon, bon, Gpa, PySem.W.mg_of X G zapa, zkpa, bpa, Gov, bov, ⟨zaov, ziov, zkov⟩⟩
    exact ok_law (its2 := its2) Flaw Bl1 O M RP T Lc k1 k2
end Fu
open PySem PySem.W PyProof.Rows
set_option maxRecDepth 100000 in
set_option maxHeartbeats 0 in
theorem PySem.Challenge.cw_fusenets_k10_ratios_calculated_holds : PySem.Challenge.rw_fusenets_k10_ratios_calculated.Holds := by
  w_on; o_law; k_head; (case hw => w_witness2)
  k_fill
  refine Fu.walk_G (l := PySem.Challenge.rw_fusenets_k10_ratios_calculated) (n := 63) (k := 9) (sp := Fu.spLaw) (x := "_law_script") rfl (by decide) rfl ⟨⟨rfl, by decide, by decide⟩, rfl⟩ (fun w h Y => PySem.W.kIn_of Y) ?F (fun K H a ns hl _ hS => ⟨a, ns, rfl, hS, hl, fun _ => rfl⟩)
  case F =>
    intro w mg fa h KX G hmg
    refine' Fu.all_mk KX G hmg ?zaC ?zaCI ?zaii ?zlii ?zcii ?zkii ?zagcd ?zlgcd ?zcgcd ?zkgcd ?zaisn ?zlisn ?zcisn ?zkisn ?zapar ?zlpar ?zcpar ?zkpar ?zapool ?zlpool ?zcpool ?zkpool ?zatake ?zltake ?zctake ?zktake ?zadr ?zldr ?zcdr ?zkdr ?zais ?zlis ?zcis ?zkis ?zasi ?zlsi ?zcsi ?zksi ?zapa ?zlpa ?zcpa ?zkpa ?zaon ?zlon ?zcon ?zkon ?zalaw ?zllaw ?zclaw ?zklaw ?zaX ?ziX ?zlX ?zcX ?zkX ?zaeq ?zieq ?zleq ?zceq ?zkeq ?zaov ?ziov ?zlov ?zcov ?zkov ?zarp ?zirp ?zlrp ?zcrp ?zkrp ?zast ?zist ?zlst ?zcst ?zkst ?zafl ?zifl ?zlfl ?zcfl ?zkfl ?zaadd ?ziadd ?zladd ?zcadd ?zkadd ?zaradd ?ziradd ?zlradd ?zcradd ?zkradd ?zasub ?zisub ?zlsub ?zcsub ?zksub ?zarsub ?zirsub ?zlrsub ?zcrsub ?zkrsub ?zamul ?zimul ?zlmul ?zcmul ?zkmul ?zarmul ?zirmul ?zlrmul ?zcrmul ?zkrmul ?zalt ?zilt ?zllt ?zclt ?zklt ?zale ?zile ?zlle ?zcle ?zkle ?zagt ?zigt ?zlgt ?zcgt ?zkgt ?zage ?zige ?zlge ?zcge ?zkge ?zaneg ?zineg ?zlneg ?zcneg ?zkneg ?zaabs ?ziabs ?zlabs ?zcabs ?zkabs ?zabool ?zibool ?zlbool ?zcbool ?zkbool ?zainit ?ziinit ?zlinit ?zcinit ?zkinit ?zdinit ?zabot ?zgbot ?ztbot ?zrbot ?zlbot ?zcbot ?zkbot ?zatop ?zgtop ?zttop ?zrtop ?zltop ?zctop ?zktop ?znisinstance ?znint ?znbool ?znabs ?znlen ?znrange ?znmax ?znmin ?znrepr ?znstr ?zxL ?zeSa ?zeGa ?zeGg ?zeV ?zeT1 ?zeK ?zeE ?zeT ?zeH ?zeI ?zeS ?zeC ?zeM ?zcPg ?zcHd ?zcPo ?zcSa ?zcMk ?zcKc ?zcCl ?zcSp ?zcTk ?zcMo ?zcI ?zcT ?zcInt ?zcBool ?zcTop ?zcBot ?zcNe ?zmNoneType ?zmbool ?zmint ?zmstr ?zmlist ?zmtuple ?zmdict ?zcSf ?ziadd_ ?ziradd_ ?zisub_ ?zirsub_ ?zimul_ ?zirmul_
    (case zaC => first | k_is | rfl)
    (case zaCI => first | k_is | rfl)
    (case zaii => first | k_is | rfl)
    (case zlii => first | k_is | rfl)
    (case zcii => first | k_is | rfl)
    (case zkii => first | k_is | rfl)
    (case zagcd => first | k_is | rfl)
    (case zlgcd => first | k_is | rfl)
    (case zcgcd => first | k_is | rfl)
    (case zkgcd => first | k_is | rfl)
    (case zaisn => first | k_is | rfl)
    (case zlisn => first | k_is | rfl)
    (case zcisn => first | k_is | rfl)
    (case zkisn => first | k_is | rfl)
    (case zapar => first | k_is | rfl)
    (case zlpar => first | k_is | rfl)
    (case zcpar => first | k_is | rfl)
    (case zkpar => first | k_is | rfl)
    (case zapool => first | k_is | rfl)
    (case zlpool => first | k_is | rfl)
    (case zcpool => first | k_is | rfl)
    (case zkpool => first | k_is | rfl)
    (case zatake => first | k_is | rfl)
    (case zltake => first | k_is | rfl)
    (case zctake => first | k_is | rfl)
    (case zktake => first | k_is | rfl)
    (case zadr => first | k_is | rfl)
    (case zldr => first | k_is | rfl)
    (case zcdr => first | k_is | rfl)
    (case zkdr => first | k_is | rfl)
    (case zais => first | k_is | rfl)
    (case zlis => first | k_is | rfl)
    (case zcis => first | k_is | rfl)
    (case zkis => first | k_is | rfl)
    (case zasi => first | k_is | rfl)
    (case zlsi => first | k_is | rfl)
    (case zcsi => first | k_is | rfl)
    (case zksi => first | k_is | rfl)
    (case zapa => first | k_is | rfl)
    (case zlpa => first | k_is | rfl)
    (case zcpa => first | k_is | rfl)
    (case zkpa => first | k_is | rfl)
    (case zaon => first | k_is | rfl)
    (case zlon => first | k_is | rfl)
    (case zcon => first | k_is | rfl)
    (case zkon => first | k_is | rfl)
    (case zalaw => first | k_is | rfl)
    (case zllaw => first | k_is | rfl)
    (case zclaw => first | k_is | rfl)
    (case zklaw => first | k_is | rfl)
    (case zaX => first | k_is | rfl)
    (case ziX => first | k_is | rfl)
    (case zlX => first | k_is | rfl)
    (case zcX => first | k_is | rfl)
    (case zkX => first | k_is | rfl)
    (case zaeq => first | k_is | rfl)
    (case zieq => first | k_is | rfl)
    (case zleq => first | k_is | rfl)
    (case zceq => first | k_is | rfl)
    (case zkeq => first | k_is | rfl)
    (case zaov => first | k_is | rfl)
    (case ziov => first | k_is | rfl)
    (case zlov => first | k_is | rfl)
    (case zcov => first | k_is | rfl)
    (case zkov => first | k_is | rfl)
    (case zarp => first | k_is | rfl)
    (case zirp => first | k_is | rfl)
    (case zlrp => first | k_is | rfl)
    (case zcrp => first | k_is | rfl)
    (case zkrp => first | k_is | rfl)
    (case zast => first | k_is | rfl)
    (case zist => first | k_is | rfl)
    (case zlst => first | k_is | rfl)
    (case zcst => first | k_is | rfl)
    (case zkst => first | k_is | rfl)
    (case zafl => first | k_is | rfl)
    (case zifl => first | k_is | rfl)
    (case zlfl => first | k_is | rfl)
    (case zcfl => first | k_is | rfl)
    (case zkfl => first | k_is | rfl)
    (case zaadd => first | k_is | rfl)
    (case ziadd => first | k_is | rfl)
    (case zladd => first | k_is | rfl)
    (case zcadd => first | k_is | rfl)
    (case zkadd => first | k_is | rfl)
    (case zaradd => first | k_is | rfl)
    (case ziradd => first | k_is | rfl)
    (case zlradd => first | k_is | rfl)
    (case zcradd => first | k_is | rfl)
    (case zkradd => first | k_is | rfl)
    (case zasub => first | k_is | rfl)
    (case zisub => first | k_is | rfl)
    (case zlsub => first | k_is | rfl)
    (case zcsub => first | k_is | rfl)
    (case zksub => first | k_is | rfl)
    (case zarsub => first | k_is | rfl)
    (case zirsub => first | k_is | rfl)
    (case zlrsub => first | k_is | rfl)
    (case zcrsub => first | k_is | rfl)
    (case zkrsub => first | k_is | rfl)
    (case zamul => first | k_is | rfl)
    (case zimul => first | k_is | rfl)
    (case zlmul => first | k_is | rfl)
    (case zcmul => first | k_is | rfl)
    (case zkmul => first | k_is | rfl)
    (case zarmul => first | k_is | rfl)
    (case zirmul => first | k_is | rfl)
    (case zlrmul => first | k_is | rfl)
    (case zcrmul => first | k_is | rfl)
    (case zkrmul => first | k_is | rfl)
    (case zalt => first | k_is | rfl)
    (case zilt => first | k_is | rfl)
    (case zllt => first | k_is | rfl)
    (case zclt => first | k_is | rfl)
    (case zklt => first | k_is | rfl)
    (case zale => first | k_is | rfl)
    (case zile => first | k_is | rfl)
    (case zlle => first | k_is | rfl)
    (case zcle => first | k_is | rfl)
    (case zkle => first | k_is | rfl)
    (case zagt => first | k_is | rfl)
    (case zigt => first | k_is | rfl)
    (case zlgt => first | k_is | rfl)
    (case zcgt => first | k_is | rfl)
    (case zkgt => first | k_is | rfl)
    (case zage => first | k_is | rfl)
    (case zige => first | k_is | rfl)
    (case zlge => first | k_is | rfl)
    (case zcge => first | k_is | rfl)
    (case zkge => first | k_is | rfl)
    (case zaneg => first | k_is | rfl)
    (case zineg => first | k_is | rfl)
    (case zlneg => first | k_is | rfl)
    (case zcneg => first | k_is | rfl)
    (case zkneg => first | k_is | rfl)
    (case zaabs => first | k_is | rfl)
    (case ziabs => first | k_is | rfl)
    (case zlabs => first | k_is | rfl)
    (case zcabs => first | k_is | rfl)
    (case zkabs => first | k_is | rfl)
    (case zabool => first | k_is | rfl)
    (case zibool => first | k_is | rfl)
    (case zlbool => first | k_is | rfl)
    (case zcbool => first | k_is | rfl)
    (case zkbool => first | k_is | rfl)
    (case zainit => first | k_is | rfl)
    (case ziinit => first | k_is | rfl)
    (case zlinit => first | k_is | rfl)
    (case zcinit => first | k_is | rfl)
    (case zkinit => first | k_is | rfl)
    (case zdinit => first | k_is | rfl)
    (case zabot => first | k_is | rfl)
    (case zgbot => first | k_is | rfl)
    (case ztbot => first | k_is | rfl)
    (case zrbot => first | k_is | rfl)
    (case zlbot => first | k_is | rfl)
    (case zcbot => first | k_is | rfl)
    (case zkbot => first | k_is | rfl)
    (case zatop => first | k_is | rfl)
    (case zgtop => first | k_is | rfl)
    (case zttop => first | k_is | rfl)
    (case zrtop => first | k_is | rfl)
    (case zltop => first | k_is | rfl)
    (case zctop => first | k_is | rfl)
    (case zktop => first | k_is | rfl)
    (case znisinstance => first | k_is | rfl)
    (case znint => first | k_is | rfl)
    (case znbool => first | k_is | rfl)
    (case znabs => first | k_is | rfl)
    (case znlen => first | k_is | rfl)
    (case znrange => first | k_is | rfl)
    (case znmax => first | k_is | rfl)
    (case znmin => first | k_is | rfl)
    (case znrepr => first | k_is | rfl)
    (case znstr => first | k_is | rfl)
    (case zxL => first | k_is | rfl)
    (case zeSa => first | k_is | rfl)
    (case zeGa => first | k_is | rfl)
    (case zeGg => first | k_is | rfl)
    (case zeV => first | k_is | rfl)
    (case zeT1 => first | k_is | rfl)
    (case zeK => first | k_is | rfl)
    (case zeE => first | k_is | rfl)
    (case zeT => first | k_is | rfl)
    (case zeH => first | k_is | rfl)
    (case zeI => first | k_is | rfl)
    (case zeS => first | k_is | rfl)
    (case zeC => first | k_is | rfl)
    (case zeM => first | k_is | rfl)
    (case zcPg => first | k_is | rfl)
    (case zcHd => first | k_is | rfl)
    (case zcPo => first | k_is | rfl)
    (case zcSa => first | k_is | rfl)
    (case zcMk => first | k_is | rfl)
    (case zcKc => first | k_is | rfl)
    (case zcCl => first | k_is | rfl)
    (case zcSp => first | k_is | rfl)
    (case zcTk => first | k_is | rfl)
    (case zcMo => first | k_is | rfl)
    (case zcI => first | k_is | rfl)
    (case zcT => first | k_is | rfl)
    (case zcInt => first | k_is | rfl)
    (case zcBool => first | k_is | rfl)
    (case zcTop => first | k_is | rfl)
    (case zcBot => first | k_is | rfl)
    (case zcNe => first | k_is | rfl)
    (case zmNoneType => first | k_is | rfl)
    (case zmbool => first | k_is | rfl)
    (case zmint => first | k_is | rfl)
    (case zmstr => first | k_is | rfl)
    (case zmlist => first | k_is | rfl)
    (case zmtuple => first | k_is | rfl)
    (case zmdict => first | k_is | rfl)
    (case zcSf => first | k_is | rfl)
    (case ziadd_ => first | k_is | rfl)
    (case ziradd_ => first | k_is | rfl)
    (case zisub_ => first | k_is | rfl)
    (case zirsub_ => first | k_is | rfl)
    (case zimul_ => first | k_is | rfl)
    (case zirmul_ => first | k_is | rfl)
