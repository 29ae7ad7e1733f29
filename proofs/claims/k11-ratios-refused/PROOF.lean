import PyProof.Rows.All
import Wide.All
import OpenK.AllK
import Wide.FinOn
import HandS.ForMost
import HandS.ForExc
import HandS.IsInst
import HandS.ExcInit
import HandS.ExcField
import HandS.ExcIs
import HandS.CallSlots
import HandS.HotCalls
import HandS.OwnEq
import HandS.Property
import HandS.Defaults
import HandS.Wide
import HandS.RaiseMore
import HandS.FStr
import HandS.TryMany
import HandS.Flow
import HandS.Evl
import KE.KExcIs
import PySem.Challenge.RW_fusenets_k11_ratios_refused
set_option Elab.async false
set_option linter.all false
set_option maxRecDepth 100000
set_option maxHeartbeats 4000000
/-! Rules that hold of any program: data by their shape, // of ints of any size, repr, ==. -/
namespace Fu
open PySem L2
open PyProof.Rows hiding St

/-- an if whose test is known -/
theorem if_true_of {c : Bool} {A B : Prop} (hc : c = true) (h : A) : if c = true then A else B := by
  rw [if_pos hc]
  exact h
theorem if_false_of {c : Bool} {A B : Prop} (hc : c = false) (h : B) : if c = true then A else B := by
  rw [hc, if_neg Bool.false_ne_true]
  exact h
/-! ### // of two ints, the divisor not 0 and below 2 ^ 9000 -/
section
variable {X : Cx}
theorem op_fdivB : OpR X (binaryOp .FloorDiv) (rI (fun _ j => j ≠ 0 ∧ j.natAbs.log2 < 9000) fun i j => .int (i.fdiv j)) := opI fun _ _ _ _ _ _ _ hc q => floordiv_int hc.1 q (.inl (PyProof.noPylong_of_log2 hc.2))
end

/-! ### data -/
inductive D where
  | non | bl (b : Bool) | int (i : Int) | str (x : Str) | lst (l : List D) | tup (l : List D) | dic | rat (n d : Int)

/-- the fields of a Ratio -/
def rf (n d : Int) : List (Str × V) := putF "own_bottom" (.int d) (putF "own_top" (.int n) [])

mutual
/-- v is the datum d in the heap H (C: the class of Ratios) -/
def At (C : Addr) (H : Hp) : D → V → Prop
  | .non, v => v = .non
  | .bl b, v => v = .bl b
  | .int i, v => v = .int i
  | .str x, v => v = .str x
  | .lst l, v => ∃ a xs, v = .ref a ∧ H a = some (.lst xs) ∧ Ats C H l xs
  | .tup l, v => ∃ a xs, v = .ref a ∧ H a = some (.tup xs) ∧ Ats C H l xs
  | .dic, v => ∃ a, v = .ref a ∧ H a = some (.dK [])
  | .rat n d, v => ∃ a dx, v = .ref a ∧ H a = some (.ins C dx (rf n d))
def Ats (C : Addr) (H : Hp) : List D → List V → Prop
  | [], xs => xs = []
  | d :: l, xs => ∃ x r, xs = x :: r ∧ At C H d x ∧ Ats C H l r
end
mutual
theorem At.ex {C : Addr} {H H' : Hp} (e : Same H H') : ∀ {d : D} {v : V}, At C H d v → At C H' d v
  | .non, _, h => h
  | .bl _, _, h => h
  | .int _, _, h => h
  | .str _, _, h => h
  | .lst l, _, h => by
    obtain ⟨a, xs, hv, ha, hs⟩ := h
    exact ⟨a, xs, hv, e _ _ ha, Ats.ex e hs⟩
  | .tup l, _, h => by
    obtain ⟨a, xs, hv, ha, hs⟩ := h
    exact ⟨a, xs, hv, e _ _ ha, Ats.ex e hs⟩
  | .dic, _, h => by
    obtain ⟨a, hv, ha⟩ := h
    exact ⟨a, hv, e _ _ ha⟩
  | .rat n d, _, h => by
    obtain ⟨a, dx, hv, ha⟩ := h
    exact ⟨a, dx, hv, e _ _ ha⟩
theorem Ats.ex {C : Addr} {H H' : Hp} (e : Same H H') : ∀ {l : List D} {xs : List V}, Ats C H l xs → Ats C H' l xs
  | [], _, h => h
  | d :: l, _, h => by
    obtain ⟨x, r, hx, h1, h2⟩ := h
    exact ⟨x, r, hx, At.ex e h1, Ats.ex e h2⟩
end

/-- the class of a datum -/
def tyD (C : Addr) : D → Value
  | .non => .type "NoneType"
  | .bl _ => .type "bool"
  | .int _ => .type "int"
  | .str _ => .type "str"
  | .lst _ => .type "list"
  | .tup _ => .type "tuple"
  | .dic => .type "dict"
  | .rat _ _ => .ref C

/-- what isinstance asks of an own class -/
structure ClsI (K : PySem.W.Frag) (C : Addr) : Prop where
  cl : Cls K C
  ha : PySem.W.findIn K (.ref C) "__class__" = some (some (.builtin "object.__class__"))
  hn : PySem.W.specialIn K (.builtin "object.__class__") "__get__" = some (some (.builtin "getset_descriptor.__get__"))
  htk : PySem.W.takesIn K (.builtin "object.__class__") = some true
  hm : PySem.W.mroIn K C (.type "object") = some true
theorem ty_at {K : PySem.W.Frag} {C : Addr} {H : Hp} (T : ClsI K C) : ∀ {d : D} {v : V}, At C H d v → TyX K H v (tyD C d)
  | .non, _, h => by cases (show _ = V.non from h); exact .base .non
  | .bl b, _, h => by cases (show _ = V.bl b from h); exact .base (.bl b)
  | .int i, _, h => by cases (show _ = V.int i from h); exact .base (.int i)
  | .str x, _, h => by cases (show _ = V.str x from h); exact .base (.str x)
  | .lst l, _, h => by
    obtain ⟨a, xs, rfl, ha, _⟩ := h
    exact .base (.lst ha)
  | .tup l, _, h => by
    obtain ⟨a, xs, rfl, ha, _⟩ := h
    exact .base (.tup ha)
  | .dic, _, h => by
    obtain ⟨a, rfl, ha⟩ := h
    exact .base (.dK ha)
  | .rat n d, _, h => by
    obtain ⟨a, dx, rfl, ha⟩ := h
    exact .base (.ins ha T.cl T.ha T.hn T.htk T.hm)
end Fu

/-! Own errors: class E(..): def __init__(self, f): self.f = f. Made and raised; a new instance whose __init__ may raise. -/
namespace Fu
open PySem L2
open PyProof.Rows hiding St
/-- the promise of such an __init__ -/
def spX (C : Addr) (f : Str) : Sp := fun vs H Q _ => ∃ (a : Addr) (v : V), vs = [.ref a, v] ∧ H a = some (exo a C none) ∧ ∀ dx, H dx = none → dx ≠ a → Q .non (upd (upd H dx (exd dx [(f, v)])) a (exo a C (some dx)))
/-- what the written part says of such a class -/
structure ErrC (K : PySem.W.Frag) (mg : Str → Option Value) (x f : Str) (C fI : Addr) : Prop where
  oex : OexC K C
  gC : mg x = some (.ref C)
  iC : PySem.W.findIn K (.ref C) "__init__" = some (some (.ref fI))
  tI : PySem.W.typeIn K (.ref fI) = some (.type "function")
  noF : PySem.W.findIn K (.ref C) f = some none
  xf : XfC K C
section
variable {X : Cx} {C fI : Addr} {x f : Str} {e : Expr} {ta : TA} {p pos : Pos} {k : Nat} {fd : FuncData}
/-- E(e) -/
def tMkX (C : Addr) (f : Str) (ta : TA) : St → Hp → XK → Prop := fun σ H Q => ta σ H fun vs H1 => ∃ v, vs = [v] ∧ ∀ d, H1 d = none → Q (.ref C) (some d) (upd H1 d (.xd [(f, v)]))
theorem pmk_mono {e : Expr} {t t' : St → Hp → XK → Prop} (h : PMk X e t) (m : ∀ σ H Q, t' σ H Q → t σ H Q) : PMk X e t' := fun pins s σ H Q I q => h pins s σ H Q I (m σ H Q q)
theorem mkX_of (hm : ∀ σ H (Q Q' : List V → Hp → Prop), (∀ vs H1, Q vs H1 → Q' vs H1) → ta σ H Q → ta σ H Q') (σ : St) (H : Hp) (Q : XK) (h : tMkX C f ta σ H Q) : tMkO C (spX C f) [] ta σ H Q := by
  refine hm σ H _ _ (fun vs H1 q => ?_) h
  obtain ⟨v, rfl, k⟩ := q
  refine ⟨(show 1 ≤ 1000 by decide), fun a ha => ?_⟩
  refine ⟨a, v, rfl, upd_same, fun dx hdx ne => ⟨rfl, dx, [(f, v)], upd_same, by rw [upd_ne ne, upd_same], ?_, ?_⟩⟩
  · rw [upd_ne ne] at hdx
    exact hdx
  · rw [upd_ne ne] at hdx
    have hh := k dx hdx
    have eq : upd (del (upd (upd (upd H1 a (exo a C none)) dx (exd dx [(f, v)])) a (exo a C (some dx))) a) dx (.xd [(f, v)]) = upd H1 dx (.xd [(f, v)]) := by
      funext b
      by_cases hb : b = dx
      · subst hb
        rw [upd_same, upd_same]
      · rw [upd_ne hb, upd_ne hb]
        by_cases hba : b = a
        · subst hba
          rw [del_same]
          exact ha.symm
        · rw [del_ne hba, upd_ne hba, upd_ne hb, upd_ne hba]
    rw [eq]
    exact hh
theorem tCons_mono {te : TE} (h : ∀ σ H (Q Q' : VK), (∀ v H1, Q v H1 → Q' v H1) → te σ H Q → te σ H Q') : ∀ σ H (Q Q' : List V → Hp → Prop), (∀ vs H1, Q vs H1 → Q' vs H1) → tCons te tNil σ H Q → tCons te tNil σ H Q' :=
  fun σ H _ _ m q => h σ H _ _ (fun v H1 z => m [v] H1 z) q
theorem tVar_mono (i : Nat) : ∀ σ H (Q Q' : VK), (∀ v H1, Q v H1 → Q' v H1) → tVar i σ H Q → tVar i σ H Q' := fun _ H _ _ m q => by
  obtain ⟨v, e, q⟩ := q
  exact ⟨v, e, m _ _ q⟩
theorem tC_mono (v : V) : ∀ σ H (Q Q' : VK), (∀ v H1, Q v H1 → Q' v H1) → tC v σ H Q → tC v σ H Q' := fun _ H _ _ m q => m _ _ q
/-- raise E(e) -/
def tRaiseX (C : Addr) (f : Str) (W : WX) (ta : TA) : TS := fun _ σ H => tMkX C f ta σ H fun cls d H' => W cls d σ H'
theorem ps_raiseX {CX : CXT} {te : TE} {W : WX} {pos2 : Pos} (hc : X.calm = true) (T : ErrC X.K X.mg x f C fI) (F1 : FnOk X.prog X.w X.K X.mg X.base CX k fI fd ["self", f] (spX C f)) (hr : Room (k + 1) X.A) (hb : Binds X.K fd ["self", f] [])
    (hx : Passes CX X (fun _ _ _ => False)) (tk : Takes X W) (ha : PE X e te) (hm : ∀ σ H (Q Q' : VK), (∀ v H1, Q v H1 → Q' v H1) → te σ H Q → te σ H Q') (hg : Gl X x := by rfl)
    (hs : starEach [e] X.env = (false, eval e X.env) :: starEach [] X.env := by rfl) (hdb : (x == ("__debug__" : Str)) = false := by decide) (hpl : (backTo pos (starEach [] X.env)).any (·.1) = false := by rfl) :
    PS X (.Raise (some (.Call (.Name x p) [e] [] pos)) none pos2) (tRaiseX C f W (tCons te tNil)) :=
  ps_raise hc tk (pmk_mono (pmk_oex T.oex T.iC T.tI F1 hr hb .nil hx hg T.gC (pa_cons ha pa_nil hs) hdb hs hpl) (mkX_of (tCons_mono hm)))
end
/-- the __init__ itself -/
theorem ok_xinit {P : Program} {w : World} {K : PySem.W.Frag} {mg : Str → Option Value} {base : Heap} {C fI : Addr} {x f qual : Str} {fd : FuncData} {st : Stmt} {p1 p2 p3 p4 : Pos} (F : Fun K "__init__" qual st fI fd) (T : ErrC K mg x f C fI)
    (hb : defBody st = [.Assign [.Attribute (.Name "self" p1) f p2] (.Name f p3) p4]) (sc : FnScope ["self", f] ["self", f] (defScope st))
    (hsw : ∀ (env : Env), swapsWith (.Name f p3) (some (.Attribute (.Name "self" p1) f p2)) p4.line env = pure false) (v0 : Vis (defScope st) "self") (v1 : Vis (defScope st) f) (d1 : (f == ("__debug__" : Str)) = false) (d2 : (f == ("__classdict__" : Str)) = false) :
    FnOk P w K mg base CX0 1 fI fd ["self", f] (spX C f) := by
  refine F.ok sc (fun vs H Q E h => ?_) (fun cdv A outer s H vs Q E hr h => ?_)
  · obtain ⟨a, v, rfl, _⟩ := h
    rfl
  · obtain ⟨a, v, rfl, ha, k⟩ := h
    rw [hb]
    refine ⟨_, pss_one (ps_ost (pe_var (i := 0) rfl v0) (pe_var (i := 1) rfl v1 d1 d2) (hsw _)), ?_⟩
    exact ⟨_, rfl, _, rfl, a, C, rfl, T.oex, T.noF, .inl ⟨ha, fun dx n ne => k dx n ne⟩⟩
end Fu

/-! A new instance, a method, whose code may raise: what is raised is wished for at the caller's slots. -/
namespace Fu
open PySem L2
open PyProof.Rows hiding St
section
variable {X : Cx} {CX : CXT} {k : Nat} {f C : Addr} {fd : FuncData} {ps : List Str} {sp : Sp} {dvs : List V} {ds : List Value} {E : St → XK} {x m : Str} {p pos apos : Pos} {e o : Expr} {es : List Expr} {ta : TE} {t : TA}
/-- what lies behind a raise in the callee, the new instance tracked -/
theorem run_makeS {pins : List (Addr × Obj)} {σ : St} {H : Hp} {s : Shared} {Q : VK} {us : List Value} {vs : List V} (M : Mk X.K C f) (F : FnOk X.prog X.w X.K X.mg X.base CX k f fd ps sp) (hr : Room (k + 1) X.A) (hb : Binds X.K fd ps ds) (hd : Vals dvs ds)
    (hx : PassesAt CX X σ (E σ)) (I : Inv X pins σ H s) (r : Vals vs us)
    (h : ∀ x dx, H x = none → H dx = none → dx ≠ x → sp (.ref x :: (vs ++ dvs)) (upd (upd H dx (.own x)) x (.ins C dx [])) (fun v H2 => v = .non ∧ Q (.ref x) H2) (E σ)) :
    wpAny (model X.prog X.w) X.A (call (.ref C) us) (EP X pins σ Q) X.xe s := by
  have hq := h (s.heap.objs.size + 1) s.heap.objs.size (I.hok.fresh (Nat.le_succ _)) (I.hok.fresh (Nat.le_refl _)) (Nat.ne_of_lt (Nat.lt_succ_self _))
  have I2 := Inv.made (C := C) I
  have r2 : Vals (V.ref (s.heap.objs.size + 1) :: (vs ++ dvs)) (Value.ref (s.heap.objs.size + 1) :: (us ++ ds)) := .cons rfl (r.append hd)
  have hl : (Value.ref (s.heap.objs.size + 1) :: us ++ ds).length = ps.length := by
    have e := r2.length
    rw [F.len _ _ _ _ hq] at e
    exact e.symm
  refine wpAny_call (make_map (f := f) I.kIn M.makes M.init (beq_iff_eq.mp M.fn) (codeAny_mono (F.run _ X.stack _ _ ⟨Value.ref (s.heap.objs.size + 1) :: us, []⟩ (Value.ref (s.heap.objs.size + 1) :: (us ++ ds)) _ _ (E σ) (hr.make C us [])
    (I2.env0.make C us []) (hb _ (Value.ref (s.heap.objs.size + 1) :: us) I2.kIn hl) r2 hq) fun r s' hq' => ?_))
  cases r with
  | error e => exact hx pins _ _ e s' I2 hq'
  | ok fl =>
    cases fl with
    | ret u =>
      obtain ⟨v, H', I3, rv, ev, q3⟩ := I2.after hq'
      subst ev
      exact ⟨rv, ⟨V.ref (s.heap.objs.size + 1), H', I3, rfl, q3⟩⟩
    | next => exact False.elim hq'
    | brk => exact False.elim hq'
    | cont => exact False.elim hq'
/-- C(e, ..) -/
def tMakeS (C : Addr) (sp : Sp) (dvs : List V) (E : St → XK) (t : TA) : TE := fun σ H Q => t σ H fun vs H1 => ∀ x dx, H1 x = none → H1 dx = none → dx ≠ x →
  sp (.ref x :: (vs ++ dvs)) (upd (upd H1 dx (.own x)) x (.ins C dx [])) (fun v H2 => v = .non ∧ Q (.ref x) H2) (E σ)
theorem pe_makeS (M : Mk X.K C f) (F : FnOk X.prog X.w X.K X.mg X.base CX k f fd ps sp) (hr : Room (k + 1) X.A) (hg : Gl X x) (hm : X.mg x = some (.ref C)) (hb : Binds X.K fd ps ds) (hd : Vals dvs ds) (hx : ∀ σ, PassesAt CX X σ (E σ))
    (ha : PA X (e :: es) t) (hdb : (x == ("__debug__" : Str)) = false := by decide) (he : starEach (e :: es) X.env = (false, eval e X.env) :: starEach es X.env := by rfl) (hpl : (backTo pos (starEach es X.env)).any (·.1) = false := by rfl) :
    PE X (.Call (.Name x p) (e :: es) [] pos) (tMakeS C sp dvs E t) := by
  refine ⟨fun pins s σ H Q I h => ?_⟩
  refine wpAny_Call_Name_kw (ld_glob I hg hm ?_ hdb)
  refine PySem.W.callWith_K (h₀ := X.base) I.ok.mod.kin M.kp (thn (ha.run pos pins s σ H _ I h) fun us s1 ⟨vs, H1, I1, r, q⟩ => ⟨I1.kIn, ?_⟩) he hpl
  exact run_makeS M F hr hb hd (hx σ) I1 r q
/-- o.m(e, ..) -/
def tMethS (C : Addr) (m : Str) (sp : Sp) (dvs : List V) (E : St → XK) (ta : TE) (t : TA) : TE := fun σ H Q => ta σ H fun x H1 => ∃ a dx fs, x = .ref a ∧ H1 a = some (.ins C dx fs) ∧ fs.lookup m = none ∧
  t σ H1 fun vs H2 => sp (x :: (vs ++ dvs)) H2 Q (E σ)
theorem pe_methS {pl : Sem Bool} (he : PE X o ta) (c : Cls X.K C) (hm : Meth X.K C m f) (F : FnOk X.prog X.w X.K X.mg X.base CX k f fd ps sp) (hr : Room k X.A) (hb : Binds X.K fd ps ds) (hd : Vals dvs ds) (hx : ∀ σ, PassesAt CX X σ (E σ)) (ha : PA X (e :: es) t)
    (hst : starEach (e :: es) X.env = (false, eval e X.env) :: starEach es X.env := by rfl) (hpl : (backTo pos (starEach es X.env)).any (·.1) = false := by rfl)
    (ht : eval (.Call (.Attribute o m apos) (e :: es) [] pos) X.env = (do
      let ov ← eval o X.env
      standAt apos.atName
      let (f, first) ← holding [ov] (getMethod ov m pl)
      callWith pos f first (backTo pos (starEach (e :: es) X.env)) (backToKw pos (keywordEach [] X.env))) := by rfl) :
    PE X (.Call (.Attribute o m apos) (e :: es) [] pos) (tMethS C m sp dvs E ta t) := by
  refine ⟨fun pins s σ H Q I h => ?_⟩
  refine PySem.W.methodCall_KW (pl := pl) (thn (he.run pins s σ H _ I h) fun u s1 ⟨x, H1, I1, rx, a, dx, fs, ex, ea, l, q⟩ => ?_) ht
  subst ex
  obtain rfl : u = Value.ref a := rx
  refine getmeth_ok I1 ea c hm l ?_
  refine PySem.W.callWith_K (first := [.ref a]) (h₀ := X.base) I.ok.mod.kin hm.kp (thn (ha.run pos pins s1 σ H1 _ I1 q) fun us s2 ⟨vs, H2, I2, r, q2⟩ => ⟨I2.kIn, ?_⟩) hst hpl
  exact run_fnSD (us := .ref a :: us) (vs := .ref a :: vs) F hr hb hd (hx σ) I2 (.cons rfl r) q2
end
/-! ### a def by its name -/
structure Def (P : Program) (w : World) (K : PySem.W.Frag) (mg : Str → Option Value) (base : Heap) (CX : CXT) (k : Nat) (x : Str) (ps : List Str) (sp : Sp) (f : Addr) (fd : FuncData) : Prop where
  ok : FnOk P w K mg base CX k f fd ps sp
  g : mg x = some (.ref f)
  kp : PySem.W.keepIn K (.ref f) = true
  b : Binds K fd ps []
section
variable {X : Cx} {CX : CXT} {k : Nat} {f C : Addr} {fd : FuncData} {ps : List Str} {sp : Sp} {E : St → XK} {x m : Str} {p pos apos : Pos} {e o : Expr} {es : List Expr} {ta : TE} {t : TA}
/-- f(e, ..), f lets nothing out -/
theorem pe_def (d : Def X.prog X.w X.K X.mg X.base CX0 k x ps sp f fd) (hr : Room k X.A) (ha : PA X (e :: es) t) (hg : Gl X x := by rfl) (hdb : (x == ("__debug__" : Str)) = false := by decide)
    (he : starEach (e :: es) X.env = (false, eval e X.env) :: starEach es X.env := by rfl) (hpl : (backTo pos (starEach es X.env)).any (·.1) = false := by rfl) : PE X (.Call (.Name x p) (e :: es) [] pos) (tCall sp [] E0 t) :=
  pe_call d.ok hr hg d.g d.kp d.b .nil pass0 ha hdb he hpl
/-- f(e, ..), f may raise; where nothing may be let out (the promise shows that it does not) -/
theorem pe_defL (d : Def X.prog X.w X.K X.mg X.base (L2.CX X.prog X.w) k x ps sp f fd) (hr : Room k X.A) (ha : PA X (e :: es) t) (hg : Gl X x := by rfl) (hdb : (x == ("__debug__" : Str)) = false := by decide)
    (he : starEach (e :: es) X.env = (false, eval e X.env) :: starEach es X.env := by rfl) (hpl : (backTo pos (starEach es X.env)).any (·.1) = false := by rfl) : PE X (.Call (.Name x p) (e :: es) [] pos) (tCall sp [] E0 t) :=
  pe_call d.ok hr hg d.g d.kp d.b .nil passL ha hdb he hpl
end
end Fu

/-! Comparisons of own instances by their own methods: x op y, y op x (reflected), x != y by __eq__. -/
namespace Fu
open PySem L2
open PyProof.Rows hiding St
section
variable {X : Cx} {CX : CXT} {k : Nat} {f C : Addr} {fd : FuncData} {ps : List Str} {sp : Sp} {E : XK}
/-- a callee's own value is never NotImplemented -/
theorem back_of {pins : List (Addr × Obj)} {σ : St} {Q : VK} {u : Value} {s' : Shared} (h : EP X pins σ Q u s') : PySem.W.CmpBack (EP X pins σ Q) u s' := by
  obtain ⟨v, H', I, r, q⟩ := id h
  cases v with
  | non => cases r; exact h
  | bl b => cases r; exact h
  | int i => obtain ⟨t, rfl⟩ := r; exact h
  | str x => obtain ⟨t, rfl⟩ := r; exact h
  | byt b => obtain ⟨t, rfl⟩ := r; exact h
  | flt b => obtain ⟨t, rfl⟩ := r; exact h
  | ref a => cases r; exact h
  | ty n => cases r; exact h
theorem inst_of {pins : List (Addr × Obj)} {σ : St} {H : Hp} {s : Shared} {a dx : Addr} {fs : List (Str × V)} (I : Inv X pins σ H s) (h : H a = some (.ins C dx fs)) : ∃ od, PySem.W.InstAt s.heap a (PySem.W.instObj C dx) C (some od) := by
  obtain ⟨mA, O, _⟩ := ins_get I.hok h
  obtain ⟨od, J, _⟩ := O.look
  exact ⟨od, J⟩
/-- x op y, x an own instance -/
def rOwn (K : PySem.W.Frag) (C : Addr) (sp : Sp) (E : XK) : R2 := fun x y H Q => ∃ a dx fs t, x = .ref a ∧ H a = some (.ins C dx fs) ∧ TyX K H y t ∧ PySem.W.notFirst K C t = true ∧ sp [.ref a, y] H Q E
theorem op_own {op : CmpOp} (F : FnOk X.prog X.w X.K X.mg X.base CX k f fd ps sp) (hr : Room k X.A) (hs : PySem.W.findIn X.K (.ref C) (cmpInfo op).2.1 = some (some (.ref f))) (hf : PySem.W.isFn X.K (.ref f) = true) (hb : Binds X.K fd ps []) (hx : Passes CX X E)
    (ho : ∀ a b, compareOp op a b = richCompare op a b) : OpR X (compareOp op) (rOwn X.K C sp E) := by
  intro pins s σ H x y u v Q I rx ry h
  obtain ⟨a, dx, fs, t, rfl, ha, ty, hn, q⟩ := h
  obtain rfl : u = Value.ref a := rx
  obtain ⟨od, J⟩ := inst_of I ha
  obtain ⟨P, Z, p, _⟩ := kit_of I ry ty
  obtain ⟨m, hF⟩ := I.fr
  rw [ho]
  refine PySem.W.cmp_K (op := op) (tb := t) hr.units0 hF I.ok.mod.kin J (Z.ty _ _ I.kIn p) hn hs hf ?_
  exact thn (run_fn (us := [.ref a, v]) (vs := [.ref a, y]) (dvs := []) (ds := []) F hr hb .nil hx I (.cons rfl (.cons ry .nil)) q) fun u s' h => back_of h
end
end Fu

/-! Defs that raise nothing, called wherever one stands (also while an exception is handled). -/
namespace Fu
open PySem L2
open PyProof.Rows hiding St
open L2H (RoomH roomH_of)
/-- the promise of a def, whatever is being handled -/
structure FnA (P : Program) (w : World) (K : PySem.W.Frag) (mg : Str → Option Value) (base : Heap) (k : Nat) (f : Addr) (fd : FuncData) (ps : List Str) (sp : Sp) : Prop where
  len : ∀ vs H Q E, sp vs H Q E → vs.length = ps.length
  run : ∀ (A : Around) (outer : List Env) (s : Shared) (H : Hp) (args : Args) (us : List Value) (vs : List V) (Q : VK) (E : XK), RoomH k A → Env0 P w K mg base A outer s H → BindsTo s fd args (ps.zip us) → Vals vs us → sp vs H Q E →
    codeAny (model P w) A (.call (.ref f) args) (CR CX0 outer P w H s Q E) s
section
variable {P : Program} {w : World} {K : PySem.W.Frag} {mg : Str → Option Value} {base : Heap} {k : Nat} {f : Addr} {fd : FuncData} {ps : List Str} {sp : Sp}
theorem FnA.calm (F : FnA P w K mg base k f fd ps sp) : FnOk P w K mg base CX0 k f fd ps sp := ⟨F.len, fun A outer s H args us vs Q E hr => F.run A outer s H args us vs Q E (roomH_of hr)⟩
/-- the context of such a def's body -/
abbrev cxA (P : Program) (w : World) (K : PySem.W.Frag) (mg : Str → Option Value) (base : Heap) (N : List Str) (qual : Str) (scope : Scope) (f : Addr) (cd : Value) (A : Around) (outer : List Env) (s : Shared) (H : Hp) (E : XK) : Cx :=
  { cxOf CX0 P w K mg base N qual scope f cd A outer s H E with calm := false, xe := fun _ _ => False }
/-- nothing but «what is handled» hangs on it -/
theorem inv_any {X Y : Cx} {pins : List (Addr × Obj)} {σ : St} {H : Hp} {s : Shared} (I : Inv X pins σ H s) (h1 : Y = { X with A := Y.A, calm := false, xe := Y.xe }) (h2 : Y.A.frames = some Y.stack) : Inv Y pins σ H s := by
  obtain ⟨⟨o1, o2, o3, o4, o5, o6, o7, o8, _, _, o11, o12, o13, o14, o15, o16, o17, o18⟩, i2, i3, i4, i5, i6, i7, i8, i9, i10, i11⟩ := I
  rw [h1] at h2 ⊢
  exact ⟨⟨o1, o2, o3, o4, o5, o6, o7, o8, fun z => Bool.noConfusion (show false = true from z), h2, o11, o12, o13, o14, o15, o16, o17, o18⟩, i2, i3, i4, i5, i6, i7, i8, i9, i10, i11⟩
theorem Env0.quiet {A : Around} {outer : List Env} {s : Shared} {H : Hp} (e : Env0 P w K mg base A outer s H) : Env0 P w K mg base { A with handled := none } outer s H := ⟨e.frames, e.mod, e.bs, e.bsz, e.funs, e.frf, e.hok, e.bare⟩
/-- a def by its body's reading there -/
theorem Fun.okA {x qual : Str} {st : Stmt} {N : List Str} (F : Fun K x qual st f fd) (S : FnScope N ps (defScope st)) (len : ∀ vs H Q E, sp vs H Q E → vs.length = ps.length)
    (hbody : ∀ (cdv : Value) (A : Around) (outer : List Env) (s : Shared) (H : Hp) (vs : List V) (Q : VK) (E : XK), RoomH k (A.deeper (envOfC qual (defScope st) s.heap.objs.size f cdv)) → sp vs H Q E →
      ∃ t, PSs (cxA P w K mg base N qual (defScope st) f cdv A outer s H E) (defBody st) t ∧ t { nx := fun _ H' => Q .non H', rt := Q } (L2.start N vs) H) : FnA P w K mg base (k + 1) f fd ps sp := by
  obtain ⟨oc, od, kV, doc, pm, an, cdv, ct, osl, rfl, lk, hcd⟩ := F.ex
  refine ⟨len, fun A outer s H args us vs Q E hr e0 hb r hsp => ?_⟩
  have KX := e0.mod.kin.keeps fun b o e => (e0.bs b o e).1
  refine codeAny_call_function hr.depth (KX _ _ lk) rfl S.co S.gen rfl (PySem.W.codeRec_of KX hcd) (hb _ _ _ _ (wpAny_newFunctionEnv_cells S.kind (fun z hz => ?_) fun env he s1 x => ?_))
  · rcases S.par z.1 (List.of_mem_zip hz).1 with q | q
    · exact .inl q
    · exact .inr ⟨q, PySem.W.cellsFrom_some _ _ _ (.inl q)⟩
  · subst he
    refine ⟨(e0.mod.nolimit.keeps fun b o e => (e0.bs b o e).1).keeps x.toInCall.keep, codeAny_func ?_⟩
    obtain ⟨t, ht, hq⟩ := hbody cdv A outer s H vs Q E (hr.deeper _) hsp
    have I0 := inv_start (CX := CX0) (E := E) S (A := { A with handled := none }) rfl (Env0.quiet e0) (len _ _ _ _ hsp) r x
    have I : Inv (cxA P w K mg base N qual (defScope st) f cdv A outer s H E) [] (L2.start N vs) H s1 := inv_any I0 rfl (Around.frames_deeper e0.frames)
    refine wpAny_mono (ht.run [] s1 _ H _ I hq) (fun fl s' hs => ?_) fun e s' hs => hs.elim
    cases fl with
    | ret u =>
      obtain ⟨v, _, H', J, rv, q⟩ := hs
      exact ⟨v, H', J.os, J.bare, J.base, J.hok, rv, q⟩
    | next =>
      obtain ⟨_, H', J, q⟩ := hs
      exact ⟨V.non, H', J.os, J.bare, J.base, J.hok, rfl, q⟩
    | brk =>
      obtain ⟨_, _, _, q⟩ := hs
      cases q
    | cont =>
      obtain ⟨_, _, _, q⟩ := hs
      cases q
end
/-- such a def runs, from anywhere -/
theorem run_any {X : Cx} {A : Around} {k : Nat} {f : Addr} {fd : FuncData} {ps : List Str} {sp : Sp} {pins : List (Addr × Obj)} {σ : St} {H : Hp} {s : Shared} {Q : VK} {E : XK} {us : List Value} {vs : List V} (F : FnA X.prog X.w X.K X.mg X.base k f fd ps sp)
    (hr : RoomH k A) (hf : A.frames = some X.stack) (hb : Binds X.K fd ps []) (I : Inv X pins σ H s) (r : Vals vs us) (h : sp vs H Q E) : wpAny (model X.prog X.w) A (call (.ref f) us) (EP X pins σ Q) X.xe s := by
  have e := I.env0
  have e0 : Env0 X.prog X.w X.K X.mg X.base A X.stack s H := ⟨hf, e.mod, e.bs, e.bsz, e.funs, e.frf, e.hok, e.bare⟩
  have b := hb s us I.kIn (by rw [List.append_nil, ← r.length]; exact F.len _ _ _ _ h)
  rw [List.append_nil] at b
  refine wpAny_call (codeAny_mono (F.run A X.stack s H ⟨us, []⟩ us vs Q E hr e0 b r h) fun z s' hq => ?_)
  cases z with
  | error e => cases hq
  | ok fl =>
    cases fl with
    | ret u => exact I.after hq
    | next => cases hq
    | brk => cases hq
    | cont => cases hq
end Fu

/-! Defs that are called where no repr is under way (so that repr of a list, a tuple, a dict may be told). -/
namespace Fu
open PySem L2
open PyProof.Rows hiding St
open L2H (RoomH roomH_of)
/-- room, and no repr under way -/
structure RoomG (k : Nat) (A : Around) : Prop where
  r : Room k A
  g : A.guards = some []
theorem RoomG.mono {j k : Nat} {A : Around} (h : RoomG k A) (e : j ≤ k) : RoomG j A := ⟨h.r.mono e, h.g⟩
theorem RoomG.deeper {k : Nat} {A : Around} (h : RoomG (k + 1) A) (env : Env) : RoomG k (A.deeper env) := ⟨h.r.deeper env, h.g⟩
/-- the promise of a def called there -/
structure FnG (P : Program) (w : World) (K : PySem.W.Frag) (mg : Str → Option Value) (base : Heap) (CX : CXT) (k : Nat) (f : Addr) (fd : FuncData) (ps : List Str) (sp : Sp) : Prop where
  len : ∀ vs H Q E, sp vs H Q E → vs.length = ps.length
  run : ∀ (A : Around) (outer : List Env) (s : Shared) (H : Hp) (args : Args) (us : List Value) (vs : List V) (Q : VK) (E : XK), RoomG k A → Env0 P w K mg base A outer s H → BindsTo s fd args (ps.zip us) → Vals vs us → sp vs H Q E →
    codeAny (model P w) A (.call (.ref f) args) (CR CX outer P w H s Q E) s
section
variable {P : Program} {w : World} {K : PySem.W.Frag} {mg : Str → Option Value} {base : Heap} {CX : CXT} {k : Nat} {f : Addr} {fd : FuncData} {ps : List Str} {sp : Sp}
theorem FnG.of (F : FnOk P w K mg base CX k f fd ps sp) : FnG P w K mg base CX k f fd ps sp := ⟨F.len, fun A outer s H args us vs Q E hr => F.run A outer s H args us vs Q E hr.r⟩
theorem Fun.okG {x qual : Str} {st : Stmt} {N : List Str} (F : Fun K x qual st f fd) (S : FnScope N ps (defScope st)) (len : ∀ vs H Q E, sp vs H Q E → vs.length = ps.length)
    (hbody : ∀ (cdv : Value) (A : Around) (outer : List Env) (s : Shared) (H : Hp) (vs : List V) (Q : VK) (E : XK), RoomG k (A.deeper (envOfC qual (defScope st) s.heap.objs.size f cdv)) → sp vs H Q E →
      ∃ t, PSs (cxOf CX P w K mg base N qual (defScope st) f cdv A outer s H E) (defBody st) t ∧ t { nx := fun _ H' => Q .non H', rt := Q } (L2.start N vs) H) : FnG P w K mg base CX (k + 1) f fd ps sp := by
  obtain ⟨oc, od, kV, doc, pm, an, cdv, ct, osl, rfl, lk, hcd⟩ := F.ex
  refine ⟨len, fun A outer s H args us vs Q E hr e0 hb r hsp => ?_⟩
  have KX := e0.mod.kin.keeps fun b o e => (e0.bs b o e).1
  refine codeAny_call_function hr.r.depth (KX _ _ lk) rfl S.co S.gen rfl (PySem.W.codeRec_of KX hcd) (hb _ _ _ _ (wpAny_newFunctionEnv_cells S.kind (fun z hz => ?_) fun env he s1 x => ?_))
  · rcases S.par z.1 (List.of_mem_zip hz).1 with q | q
    · exact .inl q
    · exact .inr ⟨q, PySem.W.cellsFrom_some _ _ _ (.inl q)⟩
  · subst he
    refine ⟨(e0.mod.nolimit.keeps fun b o e => (e0.bs b o e).1).keeps x.toInCall.keep, codeAny_func ?_⟩
    obtain ⟨t, ht, hq⟩ := hbody cdv A outer s H vs Q E (hr.deeper _) hsp
    have I := inv_start (CX := CX) (E := E) S hr.r.hd e0 (len _ _ _ _ hsp) r x
    refine wpAny_mono (ht.run [] s1 _ H _ I hq) (fun fl s' hs => ?_) fun e s' hs => hs
    cases fl with
    | ret u =>
      obtain ⟨v, _, H', J, rv, q⟩ := hs
      exact ⟨v, H', J.os, J.bare, J.base, J.hok, rv, q⟩
    | next =>
      obtain ⟨_, H', J, q⟩ := hs
      exact ⟨V.non, H', J.os, J.bare, J.base, J.hok, rfl, q⟩
    | brk =>
      obtain ⟨_, _, _, q⟩ := hs
      cases q
    | cont =>
      obtain ⟨_, _, _, q⟩ := hs
      cases q
end
section
variable {X : Cx} {k : Nat} {f : Addr} {fd : FuncData} {ps : List Str} {sp : Sp} {x : Str} {p pos : Pos} {e : Expr} {es : List Expr} {t : TA}
/-- f(e, ..), f lets nothing out -/
theorem pe_callG (F : FnG X.prog X.w X.K X.mg X.base CX0 k f fd ps sp) (hr : RoomG k X.A) (hm : X.mg x = some (.ref f)) (hk : PySem.W.keepIn X.K (.ref f) = true) (hb : Binds X.K fd ps []) (ha : PA X (e :: es) t) (hg : Gl X x := by rfl) (hdb : (x == ("__debug__" : Str)) = false := by decide)
    (he : starEach (e :: es) X.env = (false, eval e X.env) :: starEach es X.env := by rfl) (hpl : (backTo pos (starEach es X.env)).any (·.1) = false := by rfl) : PE X (.Call (.Name x p) (e :: es) [] pos) (tCall sp [] E0 t) := by
  refine ⟨fun pins s σ H Q I h => wpAny_Call_Name_kw (ld_glob I hg hm (PySem.W.callWith_K (h₀ := X.base) I.ok.mod.kin hk (thn (ha.run pos pins s σ H _ I h) fun us s1 ⟨vs, H1, I1, r, q⟩ => ⟨I1.kIn, ?_⟩) he hpl) hdb)⟩
  have hl : us.length = ps.length := by
    rw [← r.length, ← List.append_nil vs]
    exact F.len _ _ _ _ q
  have b := hb s1 us I1.kIn (by rw [List.append_nil]; exact hl)
  rw [List.append_nil] at b
  have q : sp vs H1 Q E0 := by
    have z : sp (vs ++ []) H1 Q E0 := q
    rw [List.append_nil] at z
    exact z
  refine wpAny_call (codeAny_mono (F.run X.A X.stack s1 H1 ⟨us, []⟩ us vs Q E0 hr I1.env0 b r q) fun z s' hq => ?_)
  cases z with
  | error e => cases hq
  | ok fl =>
    cases fl with
    | ret u => exact I1.after hq
    | next => cases hq
    | brk => cases hq
    | cont => cases hq
end
end Fu

/-! The end of a law whose def is told by FnG. -/
namespace Fu
open PySem L2
open PyProof.Rows hiding St
/-- what is tracked at the law's entry: the script, if it is no object of the top -/
def H1st (K : PySem.W.Frag) (a : Addr) (o : Obj) (xs : List V) : Hp := fun b => if b = a then (match K.lookup a with | some _ => none | none => some (.frz o (.lst xs))) else none
section
variable {P : Program} {w : World} {K : PySem.W.Frag} {mg mb : Str → Option Value} {a : Addr} {o : Obj} {xs : List V} {h : Heap}
theorem h1_ne {b : Addr} (e : b ≠ a) : H1st K a o xs b = none := if_neg e
theorem h1_at {b : Addr} {u : HO} (e : H1st K a o xs b = some u) : b = a ∧ K.lookup a = none ∧ u = .frz o (.lst xs) := by
  unfold H1st at e
  split at e
  · rename_i hb
    split at e
    · cases e
    · rename_i hk
      cases e
      exact ⟨hb, hk, rfl⟩
  · cases e
theorem h1_only : Only (H1st K a o xs) := fun b => by
  cases e : H1st K a o xs b with
  | none => exact .inl rfl
  | some u =>
    obtain ⟨_, _, rfl⟩ := h1_at e
    exact .inr ⟨_, _, rfl⟩
end
theorem law_G {P : Program} {w : World} {K : PySem.W.Frag} {mg mb : Str → Option Value} {k : Nat} {fa a : Addr} {fd : FuncData} {x : Str} {sp : Sp} {s : Shared} {vs : List Value} {ns : List Int} (KX : K.In s.heap) (hns : s.heap.Ns mainGlobals mg)
    (hb : s.heap.Ns builtinsNs mb) (hbb : ∀ x : Str, x ≠ "__name__" → mb x = bootBuiltins x) (hlim : s.heap.NoLimit) (hg : s.gens = #[]) (ha : s.heap.get? a = some { cls := .type "list", data := .seq vs.toArray }) (hi : IntsAre vs ns)
    (hl : ns.length ≤ sizeLine) (hr : RoomG k callerA) (F : ∀ base : Heap, K.In base → base.Ns mainGlobals mg → FnG P w K mg base CX0 k fa fd [x] sp) (hbind : ∀ (s : Shared) (u : Value), BindsTo s fd ⟨[u], []⟩ [(x, u)])
    (hsp : ∀ H : Hp, Only H → SqL K H a (ns.map V.int) → sp [.ref a] H (fun v _ => v = .bl true) fun _ _ _ => False) :
    codeAny (model P w) callerA (.call (.ref fa) ⟨[.ref a], []⟩) (fun r s' => r = .ok (.ret (.bool true)) ∧ OldK s.heap s'.heap ∧ s'.os = s.os ∧ AllBare s'.gens) s := by
  have rv := vals_ints hi
  have hz := hi.length
  let ob : Obj := { cls := .type "list", data := .seq vs.toArray }
  let H : Hp := H1st K a ob (ns.map V.int)
  have hok : HOk P w H s.heap := fun b u e => by
    obtain ⟨rfl, _, rfl⟩ := h1_at e
    exact ⟨ha, by rw [List.length_map]; exact hl, vs, _, rv, ha⟩
  have hS : SqL K H a (ns.map V.int) := by
    cases q : K.lookup a with
    | none => exact .inl (.inr ⟨ob, by show H1st K a ob _ a = _; unfold H1st; rw [if_pos rfl, q]⟩)
    | some u =>
      have e := KX a u q
      rw [ha] at e
      cases e
      exact .inr ⟨_, vs.toArray, _, q, rfl, rfl, rfl, by rw [List.size_toArray, hz]; exact hl, by simpa using rv⟩
  have free : ∀ {b : Addr} {u : Obj}, s.heap.get? b = some u → (∀ z n, u.data ≠ .seq z n) → H b = none := fun {b u} e d => by
    cases q : H b with
    | none => rfl
    | some v =>
      obtain ⟨rfl, _, _⟩ := h1_at q
      rw [ha] at e
      cases e
      exact absurd rfl (d _ _)
  have nsK : ∀ {b : Addr} {m : Str → Option Value}, s.heap.Ns b m → (hidT s.heap H).Ns b m := fun {b m} ⟨u, es, ep, e, d, r⟩ => ⟨u, es, ep, hidT_get e (free e fun z n => by rw [d]; intro q; cases q), d, r⟩
  have hKb : K.In (hidT s.heap H) := fun b u e => hidT_get (KX b u e) (by
    cases q : H b with
    | none => rfl
    | some v =>
      obtain ⟨rfl, q2, _⟩ := h1_at q
      rw [q2] at e
      cases e)
  obtain ⟨mc, l1, l2⟩ := hlim
  have e0 : Env0 P w K mg (hidT s.heap H) callerA [] s H := ⟨rfl, ⟨hKb, nsK hns, ⟨mb, nsK hb, hbb⟩, mc, nsK l1, l2⟩, fun b u e => of_hidT e, Nat.le_of_eq (hidT_size _ _), trivial, fun b z => (nomatch z), hok, .of_eq hg⟩
  refine codeAny_mono ((F _ hKb (nsK hns)).run callerA [] s H ⟨[.ref a], []⟩ [.ref a] [.ref a] _ _ hr e0 (hbind s (.ref a)) (.cons rfl .nil) (hsp H h1_only hS)) fun r s' z => ?_
  cases r with
  | error e => cases z
  | ok fl =>
    cases fl with
    | next => cases z
    | brk => cases z
    | cont => cases z
    | ret u =>
      obtain ⟨v, H', os, bare, un, hok', r', q⟩ := z
      obtain rfl : v = .bl true := q
      obtain rfl : u = Value.bool true := r'
      refine ⟨rfl, OldK.of_keep fun b u e => ?_, os, bare⟩
      cases q : H b with
      | none => exact un.keep b u e q (fun z => (nomatch z)) (fun z => (nomatch z))
      | some y =>
        obtain ⟨rfl, _, rfl⟩ := h1_at q
        obtain ⟨e2, _⟩ := hok' b _ (un.frzs b _ _ q)
        rw [ha] at e
        cases e
        exact e2
theorem walk_G {l : PySem.W.OpenLaw} {n k : Nat} {q : Program} {loose : List Str} {XP : (Str → Option Value) → Heap → Prop} {YP : World → Heap → Prop} {d : DefRec} {K : Params → PySem.W.Frag} {sp : PySem.W.Frag → Sp} {x : Str} (hn : l.most = some n) (hn2 : n ≤ sizeLine)
    (hdf : d.params.defaults = []) (hr : RoomG k callerA) (hY : ∀ (w : World) (h : Heap), YP w h → (K w.params).In h)
    (F : ∀ (w : World) (mg : Str → Option Value) (fa : Addr) (h : Heap), (K w.params).In h → h.Ns mainGlobals mg → mg d.name = some (.ref fa) → ∃ fd : FuncData, (∀ (s : Shared) (u : Value), BindsTo s fd ⟨[u], []⟩ [(x, u)]) ∧
      ∀ base : Heap, (K w.params).In base → base.Ns mainGlobals mg → FnG l.prog w (K w.params) mg base CX0 k fa fd [x] (sp (K w.params)))
    (hsp : ∀ (K : PySem.W.Frag) (H : Hp) (a : Addr) (ns : List Int), ns.length ≤ n → Only H → SqL K H a (ns.map V.int) → sp K [.ref a] H (fun v _ => v = .bl true) fun _ _ _ => False) :
    PySem.W.WalkO q loose XP YP l.row.toRowW d [] (fun f vs => PySem.call f vs) := by
  refine Att.attach_call hn hdf fun w s₀ s₁ mg mb fa o pm cd doc a vs ns G Y ho hd hcd hmg hobj hints hlen hg => ?_
  obtain ⟨fd, hb, hF⟩ := F w mg fa _ (hY w _ Y) G.T.g hmg
  exact law_G (hY w _ Y) G.T.g G.T.b G.T.builtins G.T.nolimit hg hobj hints (Nat.le_trans hlen hn2) hr hF hb fun H hO hS => hsp _ H a ns hlen hO hS
end Fu

/-! repr of data. -/
namespace Fu
open PySem L2
open PyProof.Rows hiding St
open L2H (RoomH roomH_of)
/-- how a Ratio is written -/
def rTxt (n m : Int) : Str := if m = 1 then (toString n : String) else Str.ofString (toString n) ++ "/" ++ Str.ofString (toString m)
mutual
def txt : D → Str
  | .non => "None"
  | .bl b => if b then "True" else "False"
  | .int i => (toString i : String)
  | .str x => reprText x
  | .lst l => listText (txts l)
  | .tup l => tupleText (txts l)
  | .dic => dictText []
  | .rat n m => rTxt n m
def txts : List D → List Str
  | [] => []
  | d :: l => txt d :: txts l
end
mutual
/-- the datum as the library's own; no Ratio in it -/
def pd : D → PyData
  | .non => .none
  | .bl b => .bool b
  | .int i => .int i
  | .str x => .str x
  | .lst l => .list (pds l)
  | .tup l => .tuple (pds l)
  | .dic => .dict []
  | .rat _ _ => .none
def pds : List D → List PyData
  | [] => []
  | d :: l => pd d :: pds l
end
mutual
/-- no Ratio and no dict in it -/
def inner : D → Bool
  | .lst l => inners l
  | .tup l => inners l
  | .rat _ _ => false
  | .dic => false
  | _ => true
def inners : List D → Bool
  | [] => true
  | d :: l => inner d && inners l
end
mutual
theorem inner_dict : ∀ d : D, inner d = true → (pd d).hasDict = false
  | .non, _ => rfl
  | .bl b, _ => rfl
  | .int i, _ => rfl
  | .str x, _ => rfl
  | .lst l, h => inners_dict l h
  | .tup l, h => inners_dict l h
theorem inners_dict : ∀ l : List D, inners l = true → PyData.hasDictAll (pds l) = false
  | [], _ => rfl
  | d :: l, h => by
    have h' : (inner d && inners l) = true := h
    rw [Bool.and_eq_true] at h'
    show ((pd d).hasDict || PyData.hasDictAll (pds l)) = false
    rw [inner_dict d h'.1, inners_dict l h'.2]
    rfl
end
mutual
theorem shown_pd : ∀ d : D, inner d = true → (pd d).shown = txt d
  | .non, _ => rfl
  | .bl b, _ => rfl
  | .int i, _ => rfl
  | .str x, _ => rfl
  | .lst l, h => by
    show listText (PyData.shownAll (pds l)) = listText (txts l)
    rw [shown_pds l h]
  | .tup l, h => by
    show tupleText (PyData.shownAll (pds l)) = tupleText (txts l)
    rw [shown_pds l h]
theorem shown_pds : ∀ l : List D, inners l = true → PyData.shownAll (pds l) = txts l
  | [], _ => rfl
  | d :: l, h => by
    have h' : (inner d && inners l) = true := h
    rw [Bool.and_eq_true] at h'
    show (pd d).shown :: PyData.shownAll (pds l) = txt d :: txts l
    rw [shown_pd d h'.1, shown_pds l h'.2]
end
section
variable {X : Cx} {C : Addr} {pins : List (Addr × Obj)} {σ : St} {H : Hp} {s : Shared}
mutual
theorem At.reads (I : Inv X pins σ H s) : ∀ (d : D) (v : V) (u : Value), inner d = true → At C H d v → RelV v u → ∃ as, Reads s.heap u (pd d) as
  | .non, _, _, _, h, r => by
    cases h
    cases r
    exact ⟨[], .none⟩
  | .bl b, _, _, _, h, r => by
    cases h
    cases r
    exact ⟨[], .bool b⟩
  | .int i, _, _, _, h, r => by
    cases h
    obtain ⟨t, rfl⟩ := r
    exact ⟨[], .int i t⟩
  | .str x, _, _, _, h, r => by
    cases h
    obtain ⟨t, rfl⟩ := r
    exact ⟨[], .str x t⟩
  | .lst l, _, _, hn, h, r => by
    obtain ⟨a, xs, rfl, ha, hs⟩ := h
    cases r
    obtain ⟨_, its, n, rv, e⟩ := (show ObjOk X.prog X.w H s.heap a (.lst xs) from I.hok a _ ha)
    obtain ⟨as, q⟩ := Ats.reads I l xs its hn hs rv
    exact ⟨a :: as, .list e rfl rfl (by simpa using q)⟩
  | .tup l, _, _, hn, h, r => by
    obtain ⟨a, xs, rfl, ha, hs⟩ := h
    cases r
    obtain ⟨_, its, rv, o, e, hc, n, hd⟩ := (show ObjOk X.prog X.w H s.heap a (.tup xs) from I.hok a _ ha)
    obtain ⟨as, q⟩ := Ats.reads I l xs its hn hs rv
    exact ⟨as, .tuple e hc hd (by simpa using q)⟩
theorem Ats.reads (I : Inv X pins σ H s) : ∀ (l : List D) (xs : List V) (us : List Value), inners l = true → Ats C H l xs → Vals xs us → ∃ as, ReadsAll s.heap us (pds l) as
  | [], _, _, _, h, r => by
    cases h
    cases r
    exact ⟨[], .nil⟩
  | d :: l, _, _, hn, h, r => by
    have h' : (inner d && inners l) = true := hn
    rw [Bool.and_eq_true] at h'
    obtain ⟨x, ys, rfl, h1, h2⟩ := h
    cases r with
    | cons r1 r2 =>
      obtain ⟨as, q1⟩ := At.reads I d _ _ h'.1 h1 r1
      obtain ⟨bs, q2⟩ := Ats.reads I l _ _ h'.2 h2 r2
      exact ⟨_, .cons q1 q2⟩
end
theorem dic_reads (I : Inv X pins σ H s) {a : Addr} (ha : H a = some (.dK [])) : Reads s.heap (.ref a) (.dict []) [a] ∧ a ≠ sysModules := by
  obtain ⟨_, hy, vs, kv, o, es, ep, e, hx, hd, hr⟩ := (show ObjOk X.prog X.w H s.heap a (.dK []) from I.hok a _ ha)
  cases kv
  obtain ⟨_, hp, _⟩ := hr
  have z : es.toList = [] := by
    generalize es.toList = l at hp
    cases hp
    rfl
  refine ⟨.dict (as := []) (bs := []) e hx.1 hd (by rw [z]; exact .nil) (by rw [z]; exact .nil), fun q => ?_⟩
  rw [q] at hy
  simp at hy
end
/-- what the written part says of Ratio's own repr -/
structure ReprC (P : Program) (w : World) (K : PySem.W.Frag) (mg : Str → Option Value) (base : Heap) (C f : Addr) (fd : FuncData) (sp : Sp) : Prop where
  ok : FnA P w K mg base 1 f fd ["self"] sp
  hs : PySem.W.findIn K (.ref C) "__repr__" = some (some (.ref f))
  hf : PySem.W.isFn K (.ref f) = true
  b : Binds K fd ["self"] []
/-- the promise of Ratio's own repr -/
def spRepr (C : Addr) : Sp := fun vs H Q _ => ∃ (a dx : Addr) (n m : Int), vs = [.ref a] ∧ H a = some (.ins C dx (rf n m)) ∧ n.natAbs.log2 < 1900 ∧ m.natAbs.log2 < 1900 ∧ Q (.str (rTxt n m)) H
/-- what can be written -/
def shw : D → Bool
  | .rat n m => decide (n.natAbs.log2 < 1900) && decide (m.natAbs.log2 < 1900)
  | .dic => true
  | d => inner d && (pd d).showable && decide ((pd d).depth ≤ 60) && decide ((txt d).length ≤ 1000000)
def rRepr (C : Addr) : List V → Hp → VK → Prop := fun xs H Q => ∃ (d : D) (v : V), xs = [v] ∧ At C H d v ∧ shw d = true ∧ Q (.str (txt d)) H
theorem RoomH.in1 {k : Nat} {A : Around} (h : RoomH (k + 1) A) : RoomH k A.in1 := ⟨by have := h.dp; show A.depth + 3 * k + 5 < _; omega, by have := h.un; show A.units + 1 + 16 * k + 200 < _; omega⟩
theorem RoomH.mark {k : Nat} {A : Around} (h : RoomH k A) (x : Option Value) : RoomH k (A.mark x) := ⟨h.dp, h.un⟩
theorem call_reprD {X : Cx} {C f : Addr} {fd : FuncData} (T : ReprC X.prog X.w X.K X.mg X.base C f fd (spRepr C)) (hg : X.A.guards = some []) (hr : RoomH 2 X.A) : CallR X (.builtin "repr") (rRepr C) := by
  intro pins s σ H xs us Q I r h
  obtain ⟨d, v, rfl, a, sh, q⟩ := h
  obtain ⟨u, rfl, ru⟩ := vals1 r
  have big : ∀ {n : Nat}, n ≤ 1000000 → n ≤ sizeLine := fun h => Nat.le_trans h (by rw [sizeLine_eq]; decide)
  cases d with
  | rat n m =>
    obtain ⟨p, dx, rfl, hp⟩ := a
    obtain rfl : u = Value.ref p := ru
    have sh' : (decide (n.natAbs.log2 < 1900) && decide (m.natAbs.log2 < 1900)) = true := sh
    rw [Bool.and_eq_true, decide_eq_true_eq, decide_eq_true_eq] at sh'
    obtain ⟨od, J⟩ := inst_of I hp
    obtain ⟨mm, hF⟩ := I.fr
    refine PySem.W.repr_K (by have := hr.un; show X.A.units + 1 < cLine; omega) hF I.ok.mod.kin J T.hs T.hf ?_
    refine thn (run_any (A := X.A.in1) (E := E0) (us := [.ref p]) (vs := [.ref p]) T.ok (RoomH.in1 hr) I.ok.frames T.b I (.cons rfl .nil) (Q := fun v H' => v = .str (rTxt n m) ∧ Q v H') ⟨p, dx, n, m, rfl, hp, sh'.1, sh'.2, rfl, q⟩) fun u s' hh => ?_
    obtain ⟨v, H', I', rv, rfl, q'⟩ := hh
    obtain ⟨t, rfl⟩ := rv
    exact ⟨.str (rTxt n m), H', I', ⟨t, rfl⟩, q'⟩
  | dic =>
    obtain ⟨p, rfl, hp⟩ := a
    obtain rfl : u = Value.ref p := ru
    obtain ⟨rd, ne⟩ := dic_reads I hp
    exact repr_of_reads' rd rfl (fun _ z => ne (List.mem_singleton.mp z).symm) hg (by have := hr.un; show X.A.units + (1 + 1) < cLine; omega) (fun _ _ e => e) (fun h' t tk k => ⟨.str _, H, I.kept k, ⟨_, rfl⟩, q⟩) (big (by decide +kernel))
  | non =>
    obtain rfl : v = .non := a
    obtain rfl : u = Value.none := ru
    exact PySem.P.repr_of_none ⟨.str _, H, I.tok _, ⟨_, rfl⟩, q⟩
  | bl b =>
    obtain rfl : v = .bl b := a
    obtain rfl : u = Value.bool b := ru
    exact PySem.P.repr_of_bool ⟨.str _, H, I.tok _, ⟨_, rfl⟩, q⟩
  | int i =>
    obtain rfl : v = .int i := a
    obtain ⟨t, rfl⟩ := ru
    have sh' : (true && decide (i.natAbs.log2 < 1920) && decide ((pd (.int i)).depth ≤ 60) && decide ((txt (.int i)).length ≤ 1000000)) = true := sh
    rw [Bool.and_eq_true, Bool.and_eq_true, Bool.true_and, decide_eq_true_eq] at sh'
    exact PySem.P.repr_of_int sh'.1.1 ⟨.str _, H, I.tok _, ⟨_, rfl⟩, q⟩
  | str x =>
    obtain rfl : v = .str x := a
    obtain ⟨t, rfl⟩ := ru
    have sh' : (true && true && decide ((pd (.str x)).depth ≤ 60) && decide ((reprText x).length ≤ 1000000)) = true := sh
    rw [Bool.and_eq_true, decide_eq_true_eq] at sh'
    exact PySem.P.repr_of_str ⟨.str _, H, I.tok _, ⟨_, rfl⟩, q⟩ (big sh'.2)
  | lst l =>
    have sh' : (inner (.lst l) && (pd (.lst l)).showable && decide ((pd (.lst l)).depth ≤ 60) && decide ((txt (.lst l)).length ≤ 1000000)) = true := sh
    rw [Bool.and_eq_true, Bool.and_eq_true, Bool.and_eq_true, decide_eq_true_eq, decide_eq_true_eq] at sh'
    obtain ⟨⟨⟨s1, s2⟩, s3⟩, s4⟩ := sh'
    obtain ⟨as, rd⟩ := At.reads I _ _ _ s1 a ru
    obtain ⟨p, xs, rfl, _, _⟩ := a
    obtain rfl : u = Value.ref p := ru
    rw [← shown_pd _ s1] at q s4
    exact repr_of_reads' rd s2 (PyData.noDict_hsm (inner_dict _ s1)) hg (by have := hr.un; omega) (fun _ _ e => e) (fun h' t tk k => ⟨.str _, H, I.kept k, ⟨_, rfl⟩, q⟩) (big s4)
  | tup l =>
    have sh' : (inner (.tup l) && (pd (.tup l)).showable && decide ((pd (.tup l)).depth ≤ 60) && decide ((txt (.tup l)).length ≤ 1000000)) = true := sh
    rw [Bool.and_eq_true, Bool.and_eq_true, Bool.and_eq_true, decide_eq_true_eq, decide_eq_true_eq] at sh'
    obtain ⟨⟨⟨s1, s2⟩, s3⟩, s4⟩ := sh'
    obtain ⟨as, rd⟩ := At.reads I _ _ _ s1 a ru
    obtain ⟨p, xs, rfl, _, _⟩ := a
    obtain rfl : u = Value.ref p := ru
    rw [← shown_pd _ s1] at q s4
    exact repr_of_reads' rd s2 (PyData.noDict_hsm (inner_dict _ s1)) hg (by have := hr.un; omega) (fun _ _ e => e) (fun h' t tk k => ⟨.str _, H, I.kept k, ⟨_, rfl⟩, q⟩) (big s4)
end Fu

/-! isinstance of a caught error that has fields. -/
namespace Fu
open PySem L2
open PyProof.Rows hiding St
/-- isinstance(e, c), e the error that the suite holds at a (class cls, dict d) -/
def rIsX (K : PySem.W.Frag) (D a : Addr) (cls : Value) (d : Option Addr) : List V → Hp → VK → Prop := fun xs H Q => ∃ (c : V) (cv : Value) (b : Bool) (dd : Addr) (fs : List (Str × V)), xs = [.ref a, c] ∧ ClsV c cv ∧ cls = .ref D ∧ d = some dd ∧ H dd = some (.xd fs) ∧
  PySem.W.kitOne K (.ref D) cv = some b ∧ Q (.bl b) H
theorem call_isX {X : Cx} {a D : Addr} {oe : Obj} {cls : Value} {d : Option Addr} {pn : List (Addr × Obj)} (T : ExcC X.K D) (hz : Zc cls d oe) (hf : ∃ vs, oe.data = .fields vs) : CallR (X.suite a ((a, oe) :: pn)) (.builtin "isinstance") (rIsX X.K D a cls d) := by
  intro pins s σ H xs us Q I r h
  obtain ⟨c, cv, b, dd, fs, rfl, hc, rfl, rfl, hd, e, q⟩ := h
  obtain ⟨u, t, rfl, ru, rt⟩ := vals2 r
  obtain rfl : u = Value.ref a := ru
  have ec := hc.eq rt
  subst ec
  have ha := (I.pin (a, oe) (List.mem_append_left _ List.mem_cons_self)).1
  obtain ⟨vs, hv⟩ := hf
  obtain ⟨mA, hns, _⟩ := (show ObjOk X.prog X.w H s.heap dd (.xd fs) from I.hok dd _ hd)
  obtain ⟨od, ho, _⟩ := lookIn_ns hns
  have J : PySem.W.InstAt s.heap a oe D (some od) := ⟨ha, hz.1, by unfold PySem.W.notCls; rw [hv] <;> rfl, by rw [hz.2]; exact ho⟩
  have hcl : (PySem.W.clsIn X.K D).isSome = true := by
    obtain ⟨cd, hc, _⟩ := PySem.W.any_some T.hd
    rw [hc]
    rfl
  exact PySem.W.kia_one (PySem.W.kitx_exc hcl T.hg T.hk T.hs T.ha T.hn T.ht T.hm) I.kIn J e (fun z => nomatch z) fun tk => ⟨.bl b, H, I.kept (t' := tk) fun _ _ z => z, rfl, q⟩
end Fu

/-! x != y by an own __eq__; y == x, y a built-in's value, x an own instance. -/
namespace PySem.W
open PySem PySem.Calls PyProof.Rows Builtin
section
variable {prog : Program} {w : World} {A : Around} {E : Value → Shared → Prop} {s : Shared} {K : Frag} {x C L f : Addr} {h₀ : Heap} {m : Str → Option Value} {ox : Obj} {od : Option Obj} {b tb : Value}
/-- a rich comparison by what the left one answers -/
theorem fu_left {op : CmpOp} {Q : Value → Shared → Prop} (hu : A.units < cLine) (X : K.In s.heap) (I : InstAt s.heap x ox C od) (hb : Looks (model prog w) s.heap (typeOf b) tb) (hn : notFirst K C tb = true)
    (one : wpAny (model prog w) A (tryCompare (.ref x) (cmpInfo op).2.1 b) (fun r s' => ∃ v, r = some v ∧ Q v s') E s) : wpAny (model prog w) A (richCompare op (.ref x) b) Q E s := by
  have fin : ∀ (r : Option Value) (s' : Shared) (k : Sem Value), (∃ v, r = some v ∧ Q v s') → wpAny (model prog w) A (match r with | some v => pure v | none => k) Q E s' := by
    rintro r s' k ⟨v, rfl, q⟩
    exact wpAny_pure q
  unfold richCompare
  simp only [oneThing_ref]
  refine wpAny_holding (wpAny_bind (wpAny_cRoomFor hu (wpAny_bind (I.type.here (wpAny_bind (hb.here ?_))))))
  by_cases e : (Value.ref C != tb) = true
  · rw [if_pos e]
    have e2 : subIn K tb (.ref C) = some false := by
      rcases Bool.or_eq_true_iff.mp hn with z | z
      · rw [beq_iff_eq.mp z] at e
        simp at e
      · exact beq_iff_eq.mp z
    refine wpAny_bind ((looks_subIn X e2).here ?_)
    simp only [Bool.false_eq_true, if_false]
    refine wpAny_bind (wpAny_mono one (fun r s' z => ?_) fun _ _ e => e)
    obtain ⟨v, rfl, q⟩ := z
    exact wpAny_pure q
  · rw [if_neg e]
    refine wpAny_bind (wpAny_pure ?_)
    simp only [Bool.false_eq_true, if_false]
    refine wpAny_bind (wpAny_mono one (fun r s' z => ?_) fun _ _ e => e)
    obtain ⟨v, rfl, q⟩ := z
    exact wpAny_pure q
theorem fu_neBind (self : Value) : bindSpecial (.builtin "object.__ne__") self = pure (.builtin "object.__ne__", [self]) :=
  (Slot.of (T := "object") (name := "__ne__") (owner := "object") (n := "__ne__") (by rw [typeLookup_type, builtinLookup_eq_fast]; kernel_rfl) (by decide +kernel) (by decide +kernel) (by decide +kernel) (.inl (by decide +kernel)) (by rw [isSubtype_type]; kernel_rfl)).bind self
theorem fu_nePlain : plainId "object.__ne__" = true := by decide +kernel
/-- x != b by x's own __eq__, that answers a truth value -/
theorem fu_ne {Q : Value → Shared → Prop} (hu : A.in1.units < cLine) (X : K.In s.heap) (I : InstAt s.heap x ox C od) (hb : Looks (model prog w) s.heap (typeOf b) tb) (hn : notFirst K C tb = true) (hm : mroIn K C (.type "object") = some true)
    (hne : findIn K (.ref C) "__ne__" = some (some (.builtin "object.__ne__"))) (hs : findIn K (.ref C) "__eq__" = some (some (.ref f))) (hf : isFn K (.ref f) = true)
    (h : wpAny (model prog w) A.in1 (call (.ref f) [.ref x, b]) (fun v s' => ∃ c, v = .bool c ∧ Q (.bool (!c)) s') E s) : wpAny (model prog w) A (richCompare .NotEq (.ref x) b) Q E s := by
  refine fu_left (op := .NotEq) (by have : A.units + 1 < cLine := hu; omega) X I hb hn ?_
  unfold tryCompare
  have sub : Looks (model prog w) s.heap (isInstance (.ref x) (.type "object")) true := I.type.andThen (looks_mroIn X hm)
  have core : wpAny (model prog w) A (call (.builtin "object.__ne__") [.ref x, b]) (fun v s' => ∃ c, v = .bool c ∧ Q v s') E s := by
    refine wpAny_call (codeAny_call_builtin fu_nePlain PySem.F.cmpEntry_ne (@check_slot (model prog w) _ _ s "object.__ne__" "object" "__ne__" (.ref x) [b] [] _ PySem.F.cmpKind_ne PySem.F.cmpSplit_ne sub (PySem.F.cmpArgs_ne _ _) ?_))
    unfold Builtin.«object.__ne__»
    refine wpAny_bind (wpAny_of_eq (a := ((Value.ref x : Value), [b])) (by first | rfl | (simp only [slotArgs]; rfl)) ?_)
    refine wpAny_bind (wpAny_cRoomFor hu (wpAny_bind (ifBound_K X I hs hf (wpAny_mono h (fun v s' z => ?_) fun _ _ e => e))))
    obtain ⟨c, rfl, q⟩ := z
    show wpAny _ _ (truthy (.bool c) >>= fun r => ret (.bool (!r))) _ _ _
    exact wpAny_bind (wpAny_truthy_bool (wpAny_pure ⟨_, rfl, q⟩))
  refine wpAny_bind ?_
  simp only [callSpecialIfBound?, bindSpecialIfBound?]
  refine wpAny_holding (wpAny_bind (wpAny_bind (wpAny_bind (I.type.here ((looks_findIn X hne).here ?_)))))
  simp only [fu_neBind]
  refine wpAny_bind (wpAny_askSetting (wpAny_ite ?_))
  have fin : wpAny (model prog w) A (call (.builtin "object.__ne__") ([.ref x] ++ [b]) >>= fun v => pure (some v)) (fun r s₁ => wpAny (model prog w) A (match r with | some .notImplemented => pure none | none => pure none | some v => pure (some v)) (fun r s' => ∃ v, r = some v ∧ Q v s') E s₁) E s := by
    refine wpAny_bind (wpAny_mono core (fun v s' z => ?_) fun _ _ e => e)
    obtain ⟨c, rfl, q⟩ := z
    exact wpAny_pure (wpAny_pure ⟨_, rfl, q⟩)
  split
  · exact wpAny_bind (wpAny_pure (wpAny_pure fin))
  · exact wpAny_tryCatch (wpAny_bind (wpAny_pure (wpAny_pure fin)))
/-- a rich comparison of a built-in's value with an own instance, by what the instance answers -/
theorem fu_right {op : CmpOp} {a : Value} {T i : String} {Q : Value → Shared → Prop} (hu : A.units < cLine) (X : K.In s.heap) (I : InstAt s.heap x ox C od) (ha : s.TypeIs a T) (S : Slot T (cmpInfo op).2.1 i) (hm : mroIn K C (.type T) = some false)
    (hc : ∀ Q' : Value → Shared → Prop, Q' .notImplemented s → wpAny (model prog w) A (call (.builtin i) [a, .ref x]) Q' E s) (hs : findIn K (.ref C) (cmpInfo op).2.2 = some (some (.ref f))) (hf : isFn K (.ref f) = true)
    (h : wpAny (model prog w) A (call (.ref f) [.ref x, a]) (CmpBack Q) E s) : wpAny (model prog w) A (richCompare op a (.ref x)) Q E s := by
  have one : wpAny (model prog w) A (tryCompare (.ref x) (cmpInfo op).2.2 a) (fun r s' => ∃ v, r = some v ∧ Q v s') E s := by
    unfold tryCompare
    refine wpAny_bind (ifBound_K X I hs hf (wpAny_mono h (fun v s' hv => ?_) fun _ _ e => e))
    cases v <;> first | exact hv.elim | exact wpAny_pure ⟨_, rfl, hv⟩
  unfold richCompare
  simp only [ha.oneThing_none]
  refine wpAny_holding (wpAny_bind (wpAny_cRoomFor hu (wpAny_bind (wpAny_typeOf ha (wpAny_bind (I.type.here ?_))))))
  rw [if_pos (show (Value.type T != Value.ref C) = true from rfl)]
  refine wpAny_bind ((looks_mroIn X hm).here ?_)
  simp only [Bool.false_eq_true, if_false, Bool.not_false, if_true]
  refine wpAny_bind (m := tryCompare a _ (.ref x)) (wpAny_tryCompare_declines ha S (hc _ ⟨rfl, ?_⟩))
  refine wpAny_bind (wpAny_mono one (fun r s' z => ?_) fun _ _ e => e)
  obtain ⟨v, rfl, q⟩ := z
  exact wpAny_pure q
end
end PySem.W

/-! What the built-ins' own == answers of an own instance: NotImplemented. -/
namespace PySem.W
open PySem PySem.Calls PyProof.Rows Builtin
section
variable {prog : Program} {w : World} {A : Around} {E : Value → Shared → Prop} {s : Shared} {K : Frag} {x C dx l : Addr} {Q : Value → Shared → Prop}
theorem fu_dBool {b : Bool} (hx : s.heap.get? x = some (instObj C dx)) (h : Q .notImplemented s) : wpAny (model prog w) A (call (.builtin "int.__eq__") [.bool b, .ref x]) Q E s := by
  refine GQ.call_here PySem.F.slot_bool_eq rfl PySem.F.entry_int_eq (PySem.F.args_int_eq_2 _ _) ?_
  obtain ⟨hp, g, d, tk, os⟩ := s
  wp_walk using wpAny_loadPart' hx
  exact h
theorem fu_dInt {i : Int} {t : Tok} (hx : s.heap.get? x = some (instObj C dx)) (h : Q .notImplemented s) : wpAny (model prog w) A (call (.builtin "int.__eq__") [.int i t, .ref x]) Q E s := by
  refine GQ.call_here PySem.F.slot_int_eq (typeIs_int s i t) PySem.F.entry_int_eq (PySem.F.args_int_eq_2 _ _) ?_
  obtain ⟨hp, g, d, tk, os⟩ := s
  wp_walk using wpAny_loadPart' hx
  exact h
theorem fu_dNone (h : Q .notImplemented s) : wpAny (model prog w) A (call (.builtin "NoneType.__eq__") [.none, .ref x]) Q E s :=
  call_gives PySem.F.slot_NoneType_eq rfl PySem.F.entry_NoneType_eq (PySem.F.args_NoneType_eq_2 _ _) (SeqAt.NoneType___eq___none_ref_0 x) h
theorem fu_dStr {z : Str} {t : Tok} (hx : s.heap.get? x = some (instObj C dx)) (h : Q .notImplemented s) : wpAny (model prog w) A (call (.builtin "str.__eq__") [.str z t, .ref x]) Q E s := by
  refine GQ.call_here PySem.F.slot_str_eq (typeIs_str s z t) PySem.F.entry_str_eq (PySem.F.args_str_eq_2 _ _) ?_
  obtain ⟨hp, g, d, tk, os⟩ := s
  wp_walk using wpAny_loadPart' hx
  exact h
theorem fu_dList {o : Obj} (hl : s.heap.get? l = some o) (hc : o.cls = .type "list") (hi : Looks (model prog w) s.heap (isInstance (.ref x) (.type "list")) false) (h : Q .notImplemented s) : wpAny (model prog w) A (call (.builtin "list.__eq__") [.ref l, .ref x]) Q E s := by
  refine GQ.call_here PySem.F.slot_list_eq ⟨o, hl, hc⟩ PySem.F.entry_list_eq (PySem.F.args_list_eq_2 _ _) ?_
  unfold Builtin.«list.__eq__»
  refine wpAny_bind (wpAny_of_eq (a := ((Value.ref l : Value), [Value.ref x])) (by first | rfl | (simp only [slotArgs]; rfl)) ?_)
  refine wpAny_bind (hi.here ?_)
  exact wpAny_pure h
theorem fu_dTup {o : Obj} (hl : s.heap.get? l = some o) (hc : o.cls = .type "tuple") (hi : Looks (model prog w) s.heap (isInstance (.ref x) (.type "tuple")) false) (h : Q .notImplemented s) : wpAny (model prog w) A (call (.builtin "tuple.__eq__") [.ref l, .ref x]) Q E s := by
  refine GQ.call_here PySem.F.slot_tuple_eq ⟨o, hl, hc⟩ PySem.F.entry_tuple_eq (PySem.F.args_tuple_eq_2 _ _) ?_
  unfold Builtin.«tuple.__eq__»
  refine wpAny_bind (wpAny_of_eq (a := ((Value.ref l : Value), [Value.ref x])) (by first | rfl | (simp only [slotArgs]; rfl)) ?_)
  refine wpAny_bind (hi.here ?_)
  exact wpAny_pure h
theorem fu_dDict {o : Obj} (hl : s.heap.get? l = some o) (hc : o.cls = .type "dict") (hi : Looks (model prog w) s.heap (isInstance (.ref x) (.type "dict")) false) (h : Q .notImplemented s) : wpAny (model prog w) A (call (.builtin "dict.__eq__") [.ref l, .ref x]) Q E s := by
  refine GQ.call_here PySem.F.slot_dict_eq ⟨o, hl, hc⟩ PySem.F.entry_dict_eq (PySem.F.args_dict_eq_2 _ _) ?_
  unfold Builtin.«dict.__eq__»
  refine wpAny_bind (wpAny_of_eq (a := ((Value.ref l : Value), (Value.ref x : Value))) (by first | rfl | (simp only [Builtin.Dict.dictSlotArgs, slotArgs]; rfl)) ?_)
  refine wpAny_bind (hi.here ?_)
  exact wpAny_bind (wpAny_rule (wpAny_pure h))
end
end PySem.W
namespace Fu
open PySem L2
open PyProof.Rows hiding St
/-- a callee that lets nothing out, run at another place of the same frame -/
theorem run_at {X : Cx} {A : Around} {k : Nat} {f : Addr} {fd : FuncData} {ps : List Str} {sp : Sp} {pins : List (Addr × Obj)} {σ : St} {H : Hp} {s : Shared} {Q : VK} {E : XK} {us : List Value} {vs : List V} (F : FnOk X.prog X.w X.K X.mg X.base CX0 k f fd ps sp)
    (hr : Room k A) (hf : A.frames = some X.stack) (hb : Binds X.K fd ps []) (I : Inv X pins σ H s) (r : Vals vs us) (h : sp vs H Q E) : wpAny (model X.prog X.w) A (call (.ref f) us) (EP X pins σ Q) X.xe s := by
  have e := I.env0
  have b := hb s us I.kIn (by rw [List.append_nil, ← r.length]; exact F.len _ _ _ _ h)
  rw [List.append_nil] at b
  refine wpAny_call (codeAny_mono (F.run A X.stack s H ⟨us, []⟩ us vs Q E hr ⟨hf, e.mod, e.bs, e.bsz, e.funs, e.frf, e.hok, e.bare⟩ b r h) fun z s' hq => ?_)
  cases z with
  | error e => cases hq
  | ok fl =>
    cases fl with
    | ret u => exact I.after hq
    | next => cases hq
    | brk => cases hq
    | cont => cases hq
section
variable {X : Cx} {k : Nat} {f C : Addr} {fd : FuncData} {ps : List Str} {sp : Sp}
/-- x != y, x an own instance with an own __eq__ -/
def rNeOwn (K : PySem.W.Frag) (C : Addr) (sp : Sp) : R2 := fun x y H Q => ∃ a dx fs t, x = .ref a ∧ H a = some (.ins C dx fs) ∧ TyX K H y t ∧ PySem.W.notFirst K C t = true ∧ sp [.ref a, y] H (fun v H' => ∃ c, v = .bl c ∧ Q (.bl (!c)) H') E0
theorem op_neOwn (F : FnOk X.prog X.w X.K X.mg X.base CX0 k f fd ps sp) (hr : Room (k + 1) X.A) (hm : PySem.W.mroIn X.K C (.type "object") = some true) (hne : PySem.W.findIn X.K (.ref C) "__ne__" = some (some (.builtin "object.__ne__")))
    (hs : PySem.W.findIn X.K (.ref C) "__eq__" = some (some (.ref f))) (hf : PySem.W.isFn X.K (.ref f) = true) (hb : Binds X.K fd ps []) : OpR X (compareOp .NotEq) (rNeOwn X.K C sp) := by
  intro pins s σ H x y u v Q I rx ry h
  obtain ⟨a, dx, fs, t, rfl, ha, ty, hn, q⟩ := h
  obtain rfl : u = Value.ref a := rx
  obtain ⟨od, J⟩ := inst_of I ha
  obtain ⟨P, Z, p, _⟩ := kit_of I ry ty
  show wpAny _ _ (richCompare .NotEq (.ref a) v) _ _ _
  refine PySem.W.fu_ne (by have := hr.un; show X.A.units + 1 < cLine; omega) I.kIn J (Z.ty _ _ I.kIn p) hn hm hne hs hf ?_
  refine thn (run_at (A := X.A.in1) (E := E0) (us := [.ref a, v]) (vs := [.ref a, y]) F hr.in1 I.ok.frames hb I (.cons rfl (.cons ry .nil)) q) fun z s' hh => ?_
  obtain ⟨v', H', I', rv, c, rfl, q'⟩ := hh
  obtain rfl : z = Value.bool c := rv
  exact ⟨c, rfl, .bl (!c), H', I', rfl, q'⟩
/-- the class is no kind of the built-ins -/
structure NoB (K : PySem.W.Frag) (C : Addr) : Prop where
  m : ∀ T ∈ ["NoneType", "bool", "int", "str", "list", "tuple", "dict"], PySem.W.mroIn K C (.type T) = some false
/-- y == x, y a datum that is no Ratio, x an own instance with an own __eq__ -/
def rEqRefl (C : Addr) (sp : Sp) : R2 := fun y x H Q => ∃ d a dx fs, At C H d y ∧ (∀ n m, d ≠ .rat n m) ∧ x = .ref a ∧ H a = some (.ins C dx fs) ∧ sp [.ref a, y] H Q E0
theorem op_eqRefl (F : FnOk X.prog X.w X.K X.mg X.base CX0 k f fd ps sp) (hr : Room k X.A) (N : NoB X.K C) (hs : PySem.W.findIn X.K (.ref C) "__eq__" = some (some (.ref f))) (hf : PySem.W.isFn X.K (.ref f) = true) (hb : Binds X.K fd ps []) :
    OpR X (compareOp .Eq) (rEqRefl C sp) := by
  intro pins s σ H y x v u Q I ry rx h
  obtain ⟨d, a, dx, fs, ad, nr, rfl, ha, q⟩ := h
  obtain rfl : u = Value.ref a := rx
  obtain ⟨od, J⟩ := inst_of I ha
  have hx := J.1
  have hin : ∀ T, PySem.W.mroIn X.K C (.type T) = some false → PySem.W.Looks (model X.prog X.w) s.heap (isInstance (.ref a) (.type T)) false := fun T h => J.type.andThen (PySem.W.looks_mroIn I.kIn h)
  have back := fun (q : sp [.ref a, y] H Q E0) => thn (run_at (A := X.A) (E := E0) (us := [.ref a, v]) (vs := [.ref a, y]) F hr I.ok.frames hb I (.cons rfl (.cons ry .nil)) q) fun z s' hh => back_of hh
  show wpAny _ _ (richCompare .Eq v (.ref a)) _ _ _
  cases d with
  | rat n m => exact absurd rfl (nr n m)
  | non =>
    obtain rfl : y = .non := ad
    obtain rfl : v = Value.none := ry
    exact PySem.W.fu_right hr.units0 I.kIn J rfl PySem.F.slot_NoneType_eq (N.m _ (by decide)) (fun _ h => PySem.W.fu_dNone h) hs hf (back q)
  | bl b =>
    obtain rfl : y = .bl b := ad
    obtain rfl : v = Value.bool b := ry
    exact PySem.W.fu_right hr.units0 I.kIn J rfl PySem.F.slot_bool_eq (N.m _ (by decide)) (fun _ h => PySem.W.fu_dBool hx h) hs hf (back q)
  | int i =>
    obtain rfl : y = .int i := ad
    obtain ⟨t, rfl⟩ := id ry
    exact PySem.W.fu_right hr.units0 I.kIn J (typeIs_int s i t) PySem.F.slot_int_eq (N.m _ (by decide)) (fun _ h => PySem.W.fu_dInt hx h) hs hf (back q)
  | str z =>
    obtain rfl : y = .str z := ad
    obtain ⟨t, rfl⟩ := id ry
    exact PySem.W.fu_right hr.units0 I.kIn J (typeIs_str s z t) PySem.F.slot_str_eq (N.m _ (by decide)) (fun _ h => PySem.W.fu_dStr hx h) hs hf (back q)
  | lst l =>
    obtain ⟨p, xs, rfl, hp, _⟩ := ad
    obtain rfl : v = Value.ref p := ry
    obtain ⟨_, its, n, _, e⟩ := (show ObjOk X.prog X.w H s.heap p (.lst xs) from I.hok p _ hp)
    exact PySem.W.fu_right hr.units0 I.kIn J ⟨_, e, rfl⟩ PySem.F.slot_list_eq (N.m _ (by decide)) (fun _ h => PySem.W.fu_dList e rfl (hin _ (N.m _ (by decide))) h) hs hf (back q)
  | tup l =>
    obtain ⟨p, xs, rfl, hp, _⟩ := ad
    obtain rfl : v = Value.ref p := ry
    obtain ⟨_, its, _, o, e, hc, _⟩ := (show ObjOk X.prog X.w H s.heap p (.tup xs) from I.hok p _ hp)
    exact PySem.W.fu_right hr.units0 I.kIn J ⟨_, e, hc⟩ PySem.F.slot_tuple_eq (N.m _ (by decide)) (fun _ h => PySem.W.fu_dTup e hc (hin _ (N.m _ (by decide))) h) hs hf (back q)
  | dic =>
    obtain ⟨p, rfl, hp⟩ := ad
    obtain rfl : v = Value.ref p := ry
    obtain ⟨_, _, _, _, o, _, _, e, hc, _⟩ := (show ObjOk X.prog X.w H s.heap p (.dK []) from I.hok p _ hp)
    exact PySem.W.fu_right hr.units0 I.kIn J ⟨_, e, hc.1⟩ PySem.F.slot_dict_eq (N.m _ (by decide)) (fun _ h => PySem.W.fu_dDict e hc.1 (hin _ (N.m _ (by decide))) h) hs hf (back q)
end
end Fu

namespace Fu
open PySem L2
open PyProof.Rows hiding St
def topS (i : Nat) : Stmt := PySem.Challenge.pw_fusenets_k11_ratios_refused.main.body.getD i (.Pass ⟨0, 0, 0, 0⟩)
abbrev sInvNum : Stmt := inClass (topS 3) 0
abbrev sIsInt : Stmt := topS 5
abbrev sGcd : Stmt := topS 6
abbrev sInit : Stmt := inClass (topS 7) 0
def isInt : D → Bool
  | .int _ => true
  | _ => false
/-- names that are still the built-ins' -/
structure Bt (mg : Str → Option Value) : Prop where
  isi : mg "isinstance" = none
  int : mg "int" = none
  bool : mg "bool" = none
  abs : mg "abs" = none
/-- the class Ratio and what isinstance says of it -/
structure RatC (K : PySem.W.Frag) (C : Addr) : Prop where
  ci : ClsI K C
  kInt : PySem.W.kitOne K (.ref C) (.type "int") = some false
  kBool : PySem.W.kitOne K (.ref C) (.type "bool") = some false
  nT : NoAttr K C "own_top"
  nB : NoAttr K C "own_bottom"
section
variable {P : Program} {w : World} {K : PySem.W.Frag} {mg : Str → Option Value} {base : Heap} {C : Addr}
def isI : D → Bool
  | .int _ => true
  | .bl _ => true
  | _ => false
def isB : D → Bool
  | .bl _ => true
  | _ => false
theorem kit_b {a b : String} {r : Bool} (h : kitB a b = some r) : PySem.W.kitOne K (.type a) (.type b) = some r := h
theorem kit_int (R : RatC K C) : ∀ d : D, PySem.W.kitOne K (tyD C d) (.type "int") = some (isI d)
  | .non => kit_b (r := false) (by decide +kernel)
  | .bl _ => kit_b (r := true) (by decide +kernel)
  | .int _ => kit_b (r := true) (by decide +kernel)
  | .str _ => kit_b (r := false) (by decide +kernel)
  | .lst _ => kit_b (r := false) (by decide +kernel)
  | .tup _ => kit_b (r := false) (by decide +kernel)
  | .dic => kit_b (r := false) (by decide +kernel)
  | .rat _ _ => R.kInt
theorem kit_bool (R : RatC K C) : ∀ d : D, PySem.W.kitOne K (tyD C d) (.type "bool") = some (isB d)
  | .non => kit_b (r := false) (by decide +kernel)
  | .bl _ => kit_b (r := true) (by decide +kernel)
  | .int _ => kit_b (r := false) (by decide +kernel)
  | .str _ => kit_b (r := false) (by decide +kernel)
  | .lst _ => kit_b (r := false) (by decide +kernel)
  | .tup _ => kit_b (r := false) (by decide +kernel)
  | .dic => kit_b (r := false) (by decide +kernel)
  | .rat _ _ => R.kBool
theorem isInt_eq (d : D) : isInt d = (isI d && !isB d) := by cases d <;> rfl
/-! ### is_integer -/
def spIsInt (C : Addr) : Sp := fun vs H Q _ => ∃ (d : D) (v : V), vs = [v] ∧ At C H d v ∧ Q (.bl (isInt d)) H
theorem scIsInt : FnScope ["value"] ["value"] (defScope sIsInt) := ⟨rfl, rfl, rfl, by decide +kernel, rfl, by decide +kernel, by decide +kernel⟩
theorem ok_isInt {f : Addr} {fd : FuncData} (F : Fun K "is_integer" "is_integer" sIsInt f fd) (B : Bt mg) (R : RatC K C) : FnOk P w K mg base CX0 1 f fd ["value"] (spIsInt C) := by
  refine F.ok scIsInt (fun vs H Q E h => ?_) (fun cdv A outer s H vs Q E hr h => ?_)
  · obtain ⟨d, v, rfl, _⟩ := h
    rfl
  · obtain ⟨d, v, rfl, a, k⟩ := h
    refine ⟨_, pss_one (ps_ret (pe_and (pe_callB call_isi (by rfl) B.isi (by decide +kernel) (pa_cons (pv 0) (pa_cons (pe_bltn (v := .ty "int") (by rfl) B.int (by decide +kernel) rfl) pa_nil)))
      (pe_one (pe_not (pe_callB call_isi (by rfl) B.isi (by decide +kernel) (pa_cons (pv 0) (pa_cons (pe_bltn (v := .ty "bool") (by rfl) B.bool (by decide +kernel) rfl) pa_nil))))))), ?_⟩
    refine ⟨_, rfl, _, _, _, _, _, rfl, .ty "int", ty_at R.ci a, kit_int R d, _, rfl, ?_⟩
    rw [isInt_eq] at k
    cases h : isI d with
    | false =>
      rw [h] at k
      exact iteF k
    | true =>
      rw [h] at k
      exact iteT ⟨_, rfl, _, _, _, _, _, rfl, .ty "bool", ty_at R.ci a, kit_bool R d, _, rfl, k⟩
/-! ### common_divisor -/
theorem fmod_lt {i j : Int} (h : j ≠ 0) : (i.fmod j).natAbs < j.natAbs := by
  rcases Int.lt_or_gt_of_ne h with hj | hj
  · rw [Int.fmod_eq_emod]
    have h1 := Int.emod_nonneg i h
    have h2 := Int.emod_lt i h
    split
    · omega
    · rename_i z
      have h3 : ¬ i % j = 0 := fun q => z (.inr (Int.dvd_of_emod_eq_zero q))
      omega
  · have h1 := Int.fmod_nonneg_of_pos i hj
    have h2 := Int.fmod_lt_of_pos i hj
    omega
theorem gcd_fmod (i j : Int) : Int.gcd j (i.fmod j) = Int.gcd i j := by
  rw [Int.fmod_def, Int.gcd_sub_mul_left_right, Int.gcd_comm]
theorem gcd_zero_abs (i : Int) : (if i < 0 then -i else i) = (Int.gcd i 0 : Int) := by
  rw [Int.gcd_zero_right]
  split <;> omega
def spGcd : Sp := fun vs H Q _ => ∃ (i j : Int), vs = [.int i, .int j] ∧ Q (.int (Int.gcd i j)) H
theorem scGcd : FnScope ["one", "other"] ["one", "other"] (defScope sGcd) := ⟨rfl, rfl, rfl, by decide +kernel, rfl, by decide +kernel, by decide +kernel⟩
theorem ok_gcd {f : Addr} {fd : FuncData} (F : Fun K "common_divisor" "common_divisor" sGcd f fd) (B : Bt mg) : FnOk P w K mg base CX0 1 f fd ["one", "other"] spGcd := by
  refine F.ok scGcd (fun vs H Q E h => ?_) (fun cdv A outer s H vs Q E hr h => ?_)
  · obtain ⟨i, j, rfl, _⟩ := h
    rfl
  · obtain ⟨i, j, rfl, k⟩ := h
    refine ⟨_, pss_cons (ps_while PassesOwn.never (pt_cmpR op_ne (pv 1) pe_int (nomark _))
        (pss_one (ps_par rfl scGcd.nd (i := 0) (j := 1) rfl rfl (by decide) rfl rfl (pa_cons (pv 1) (pa_cons (pe_op op_modN (pv 0) (pv 1)) pa_nil)) (by rfl))))
      (pss_one (ps_ret (pe_callB call_abs (by rfl) B.abs (by decide +kernel) (pa_cons (pv 0) pa_nil)))), ?_⟩
    refine while_by (fun σ H' => H' = H ∧ ∃ a b : Int, σ = [some (.int a), some (.int b)] ∧ Int.gcd a b = Int.gcd i j)
      (fun σ _ => match σ with | [_, some (.int b)] => b.natAbs | _ => 0) ⟨rfl, i, j, rfl, rfl⟩ ?_ ?_
    · rintro σ H' ⟨rfl, a, b, rfl, e⟩
      refine ⟨_, rfl, rfl, _, rfl, ?_⟩
      by_cases hb : b = 0
      · subst hb
        refine iteNS rfl ?_
        refine ⟨_, rfl, _, rfl, ?_⟩
        rw [gcd_zero_abs, e]
        exact k
      · refine if_true_of (by simp [hb]) ?_
        refine ⟨_, rfl, _, rfl, _, rfl, _, _, rfl, rfl, hb, _, _, rfl, ⟨rfl, b, a.fmod b, rfl, ?_⟩, fmod_lt hb⟩
        rw [gcd_fmod]
        exact e
    · rintro σ H' Q1 Q2 m ⟨v, e, h1, b, hb, h2⟩
      exact ⟨v, e, h1, b, hb, m _ _ h2⟩
/-! ### Ratio's __init__ -/
/-- the divisor, the parts in lowest terms -/
def dv (n m : Int) : Int := if m < 0 then -(Int.gcd n m : Int) else Int.gcd n m
def rN (n m : Int) : Int := n.fdiv (dv n m)
def rD (n m : Int) : Int := m.fdiv (dv n m)
theorem dv_ne {n m : Int} (h : m ≠ 0) : dv n m ≠ 0 := by
  have h1 : Int.gcd n m ≠ 0 := fun e => h (Int.gcd_eq_zero_iff.mp e).2
  unfold dv
  split <;> omega
theorem dv_abs {n m : Int} (h : m ≠ 0) : (dv n m).natAbs ≤ m.natAbs := by
  have h1 : Int.gcd n m ∣ m.natAbs := Int.gcd_dvd_natAbs_right n m
  have h2 := Nat.le_of_dvd (by omega) h1
  unfold dv
  split <;> omega
theorem log2_mono {a b : Nat} (h : a ≤ b) : a.log2 ≤ b.log2 := by
  by_cases ha : a = 0
  · subst ha
    simp
  · exact (Nat.le_log2 (by omega)).mpr (Nat.le_trans (Nat.log2_self_le ha) h)
theorem dv_small {n m : Int} (h : m ≠ 0) (hm : m.natAbs.log2 < 9000) : (dv n m).natAbs.log2 < 9000 := Nat.lt_of_le_of_lt (log2_mono (dv_abs h)) hm
/-- the class InvalidNumber, its __init__ -/
structure IN (P : Program) (w : World) (K : PySem.W.Frag) (mg : Str → Option Value) (base : Heap) (CI fX : Addr) (fdX : FuncData) : Prop where
  e : ErrC K mg "InvalidNumber" "value" CI fX
  ok : FnOk P w K mg base CX0 1 fX fdX ["self", "value"] (spX CI "value")
  b : Binds K fdX ["self", "value"] []
def spInit (C CI : Addr) : Sp := fun vs H Q E => ∃ (x dx : Addr) (vt vb : V) (dt db : D), vs = [.ref x, vt, vb] ∧ H x = some (.ins C dx []) ∧ At C H dt vt ∧ At C H db vb ∧
  (isInt dt = false → ∀ d, H d = none → E (.ref CI) (some d) (upd H d (.xd [("value", vt)]))) ∧
  (isInt dt = true → (isInt db = false ∨ db = .int 0) → ∀ d, H d = none → E (.ref CI) (some d) (upd H d (.xd [("value", vb)]))) ∧
  (∀ n m, dt = .int n → db = .int m → m ≠ 0 → m.natAbs.log2 < 9000 ∧ Q .non (upd H x (.ins C dx (rf (rN n m) (rD n m)))))
theorem isInt_int {d : D} (h : isInt d = true) : ∃ n, d = .int n := by
  cases d <;> first | exact ⟨_, rfl⟩ | cases h
theorem scInit : FnScope ["self", "top", "bottom", "divisor"] ["self", "top", "bottom"] (defScope sInit) := ⟨rfl, rfl, rfl, by decide +kernel, rfl, by decide +kernel, by decide +kernel⟩
theorem ok_init {f f1 f2 CI fX : Addr} {fd fd1 fd2 fdX : FuncData} (F : FunD K "__init__" "Ratio.__init__" (defArgs sInit) (defBody sInit) (defScope sInit) [.int 1] [] f fd) (B : Bt mg) (R : RatC K C) (I : IN P w K mg base CI fX fdX)
    (G1 : Def P w K mg base CX0 1 "is_integer" ["value"] (spIsInt C) f1 fd1) (G2 : Def P w K mg base CX0 1 "common_divisor" ["one", "other"] spGcd f2 fd2) :
    FnOk P w K mg base (L2.CX P w) 3 f fd ["self", "top", "bottom"] (spInit C CI) := by
  refine F.ok scInit (fun vs H Q E h => ?_) (fun cdv A outer s H vs Q E hr h => ?_)
  · obtain ⟨x, dx, vt, vb, dt, db, rfl, _⟩ := h
    rfl
  · obtain ⟨x, dx, vt, vb, dt, db, rfl, hx, at1, at2, e1, e2, k⟩ := h
    have hr1 := hr.mono (show 1 ≤ 2 by decide)
    refine ⟨_, pss_cons (ps_if (pt_not (pt_val (pe_def G1 hr1 (pa_cons (pv 1) pa_nil)))) (pss_one (ps_raiseX rfl I.e I.ok hr I.b pass0 (takes_of rfl rfl rfl rfl) (pv 1) (tVar_mono 1))) pss_nil)
      (pss_cons (ps_if (PW.pt (pw_or (pt_not (pt_val (pe_def G1 hr1 (pa_cons (pv 2) pa_nil)))) (pw_or1 (pt_cmpR op_eq (pv 2) pe_int (nomark _))))) (pss_one (ps_raiseX rfl I.e I.ok hr I.b pass0 (takes_of rfl rfl rfl rfl) (pv 2) (tVar_mono 2))) pss_nil)
      (pss_cons (ps_set (i := 3) scInit.nd rfl (Or.inl rfl) (pe_def G2 hr1 (pa_cons (pv 1) (pa_cons (pv 2) pa_nil))))
      (pss_cons (ps_if (pt_cmpR op_lt (pv 2) pe_int (nomark _)) (pss_one (ps_set (i := 3) scInit.nd rfl (Or.inl rfl) (pe_un un_neg (pv 3)))) pss_nil)
      (pss_cons (ps_fld (pv 0) (pe_op op_fdivB (pv 1) (pv 3)) rfl)
      (pss_one (ps_fld (pv 0) (pe_op op_fdivB (pv 2) (pv 3)) rfl)))))), ?_⟩
    refine ⟨_, rfl, dt, vt, rfl, at1, _, rfl, ?_⟩
    cases h1 : isInt dt with
    | false => exact iteT ⟨_, rfl, _, rfl, fun d hd => e1 h1 d hd⟩
    | true =>
      refine iteF ⟨_, rfl, db, vb, rfl, at2, _, rfl, ?_⟩
      cases h2 : isInt db with
      | false => exact iteT (iteT ⟨_, rfl, _, rfl, fun d hd => e2 h1 (.inl h2) d hd⟩)
      | true =>
        obtain ⟨n, rfl⟩ := isInt_int h1
        obtain ⟨m, rfl⟩ := isInt_int h2
        obtain rfl : vt = .int n := at1
        obtain rfl : vb = .int m := at2
        refine iteF ⟨_, rfl, rfl, _, rfl, ?_⟩
        by_cases hm : m = 0
        · subst hm
          exact if_true_of (by simp) ⟨_, rfl, _, rfl, fun d hd => e2 h1 (.inr rfl) d hd⟩
        · refine if_false_of (by simpa using hm) ?_
          obtain ⟨hl, k⟩ := k n m rfl rfl hm
          have hz := dv_ne (n := n) hm
          have hs := dv_small (n := n) hm hl
          refine ⟨_, rfl, _, rfl, n, m, rfl, _, rfl, _, _, rfl, rfl, _, rfl, ?_⟩
          have fin : ∀ z : Int, z = dv n m → tSeq (sFld K (tVar 0) (tOp (rI (fun x j => j ≠ 0 ∧ j.natAbs.log2 < 9000) fun i j => V.int (i.fdiv j)) (tVar 1) (tVar 3)) "own_top")
              (sFld K (tVar 0) (tOp (rI (fun x j => j ≠ 0 ∧ j.natAbs.log2 < 9000) fun i j => V.int (i.fdiv j)) (tVar 2) (tVar 3)) "own_bottom") { nx := fun x H' => Q V.non H', rt := Q } [some (.ref x), some (.int n), some (.int m), some (.int z)] H := by
            rintro z rfl
            refine ⟨_, rfl, _, rfl, _, _, rfl, rfl, ⟨hz, hs⟩, _, rfl, x, C, dx, [], rfl, hx, R.ci.cl, R.nT, (by show 0 < 1000; decide), ?_⟩
            refine ⟨_, rfl, _, rfl, _, _, rfl, rfl, ⟨hz, hs⟩, _, rfl, x, C, dx, _, rfl, upd_same, R.ci.cl, R.nB, (by show 1 < 1000; decide), ?_⟩
            rw [upd_upd]
            exact k
          by_cases hn : m < 0
          · refine if_true_of (by simpa using hn) ⟨_, rfl, _, rfl, ?_⟩
            exact fin _ (by unfold dv; rw [if_pos hn])
          · refine if_false_of (by simpa using hn) ?_
            exact fin _ (by unfold dv; rw [if_neg hn])
end
end Fu

namespace Fu
open PySem L2
open PyProof.Rows hiding St
abbrev sEq : Stmt := inClass (topS 7) 12
abbrev sOver : Stmt := inClass (topS 7) 17
abbrev sRepr : Stmt := inClass (topS 7) 20
abbrev sIsNum : Stmt := topS 8
abbrev sParts : Stmt := topS 9
def isRat : D → Bool
  | .rat _ _ => true
  | _ => false
/-- a number's parts -/
def prt : D → Option (Int × Int)
  | .int n => some (n, 1)
  | .rat n m => some (n, m)
  | _ => none
def isNum (d : D) : Bool := (prt d).isSome
/-- isinstance(v, Ratio) -/
structure RatK (K : PySem.W.Frag) (mg : Str → Option Value) (C : Addr) : Prop where
  g : mg "Ratio" = some (.ref C)
  t : ∀ T ∈ ["NoneType", "bool", "int", "str", "list", "tuple", "dict"], PySem.W.kitOne K (.type T) (.ref C) = some false
section
variable {P : Program} {w : World} {K : PySem.W.Frag} {mg : Str → Option Value} {base : Heap} {C : Addr}
theorem kit_self {t : Value} : PySem.W.kitOne K t t = some true := by
  unfold PySem.W.kitOne
  rw [if_pos (by simp)]
theorem kit_rat (R : RatK K mg C) : ∀ d : D, PySem.W.kitOne K (tyD C d) (.ref C) = some (isRat d)
  | .non => R.t _ (by decide)
  | .bl _ => R.t _ (by decide)
  | .int _ => R.t _ (by decide)
  | .str _ => R.t _ (by decide)
  | .lst _ => R.t _ (by decide)
  | .tup _ => R.t _ (by decide)
  | .dic => R.t _ (by decide)
  | .rat _ _ => kit_self
theorem isNum_eq (d : D) : isNum d = (isRat d || isInt d) := by cases d <;> rfl
/-! ### is_number -/
def spIsNum (C : Addr) : Sp := fun vs H Q _ => ∃ (d : D) (v : V), vs = [v] ∧ At C H d v ∧ Q (.bl (isNum d)) H
theorem scIsNum : FnScope ["value"] ["value"] (defScope sIsNum) := ⟨rfl, rfl, rfl, by decide +kernel, rfl, by decide +kernel, by decide +kernel⟩
theorem ok_isNum {f f1 : Addr} {fd fd1 : FuncData} (F : Fun K "is_number" "is_number" sIsNum f fd) (B : Bt mg) (R : RatC K C) (R2 : RatK K mg C) (G1 : Def P w K mg base CX0 1 "is_integer" ["value"] (spIsInt C) f1 fd1) :
    FnOk P w K mg base CX0 2 f fd ["value"] (spIsNum C) := by
  refine F.ok scIsNum (fun vs H Q E h => ?_) (fun cdv A outer s H vs Q E hr h => ?_)
  · obtain ⟨d, v, rfl, _⟩ := h
    rfl
  · obtain ⟨d, v, rfl, a, k⟩ := h
    refine ⟨_, pss_one (ps_ret (pe_or (pe_callB call_isi (by rfl) B.isi (by decide +kernel) (pa_cons (pv 0) (pa_cons (pe_glob (v := .ref C) (by rfl) R2.g rfl) pa_nil)))
      (pe_one (pe_def G1 hr (pa_cons (pv 0) pa_nil))))), ?_⟩
    refine ⟨_, rfl, _, _, _, _, _, rfl, .own C, ty_at R.ci a, kit_rat R2 d, _, rfl, ?_⟩
    rw [isNum_eq] at k
    cases h : isRat d with
    | true =>
      rw [h] at k
      exact iteT k
    | false =>
      rw [h] at k
      exact iteF ⟨_, rfl, d, v, rfl, a, k⟩
/-! ### parts_of -/
theorem rf_eq (n m : Int) : rf n m = ([("own_top", V.int n), ("own_bottom", V.int m)] : List (Str × V)) := by
  show (if ("own_top" : Str) = "own_bottom" then [(("own_top" : Str), V.int m)] else (("own_top" : Str), V.int n) :: putF "own_bottom" (V.int m) []) = ([("own_top", V.int n), ("own_bottom", V.int m)] : List (Str × V))
  rw [if_neg (by decide +kernel)]
  rfl
theorem rf_top (n m : Int) : (rf n m).lookup ("own_top" : Str) = some (V.int n) := by
  unfold rf
  rw [lookup_putF, if_neg (by decide +kernel), lookup_putF, if_pos rfl]
theorem rf_bot (n m : Int) : (rf n m).lookup ("own_bottom" : Str) = some (V.int m) := by
  unfold rf
  rw [lookup_putF, if_pos rfl]
theorem rf_no (n m : Int) {x : Str} (h1 : ¬ x = "own_top") (h2 : ¬ x = "own_bottom") : (rf n m).lookup x = none := by
  unfold rf
  rw [lookup_putF, if_neg h2, lookup_putF, if_neg h1]
  rfl
def spParts (C : Addr) : Sp := fun vs H Q _ => ∃ (d : D) (v : V) (n m : Int), vs = [v] ∧ At C H d v ∧ prt d = some (n, m) ∧ ∀ p, H p = none → Q (.ref p) (upd H p (.tup [.int n, .int m]))
theorem scParts : FnScope ["number"] ["number"] (defScope sParts) := ⟨rfl, rfl, rfl, by decide +kernel, rfl, by decide +kernel, by decide +kernel⟩
theorem ok_parts {f : Addr} {fd : FuncData} (F : Fun K "parts_of" "parts_of" sParts f fd) (B : Bt mg) (R : RatC K C) (R2 : RatK K mg C) :
    FnOk P w K mg base CX0 1 f fd ["number"] (spParts C) := by
  refine F.ok scParts (fun vs H Q E h => ?_) (fun cdv A outer s H vs Q E hr h => ?_)
  · obtain ⟨d, v, n, m, rfl, _⟩ := h
    rfl
  · obtain ⟨d, v, n, m, rfl, a, hp, k⟩ := h
    refine ⟨_, pss_one (ps_ret (pe_ifExp (pt_val (pe_callB call_isi (by rfl) B.isi (by decide +kernel) (pa_cons (pv 0) (pa_cons (pe_glob (v := .ref C) (by rfl) R2.g rfl) pa_nil))))
      (pe_tup (pa_cons (pe_fld (pv 0) rfl) (pa_cons (pe_fld (pv 0) rfl) pa_nil))) (pe_tup (pa_cons (pv 0) (pa_cons pe_int pa_nil))))), ?_⟩
    refine ⟨_, rfl, _, _, _, _, _, rfl, .own C, ty_at R.ci a, kit_rat R2 d, _, rfl, ?_⟩
    cases d with
    | int i =>
      cases hp
      obtain rfl : v = .int n := a
      exact iteF ⟨_, rfl, (by show 2 ≤ sizeLine; decide), k⟩
    | rat i j =>
      cases hp
      obtain ⟨p, dx, rfl, hp⟩ := a
      exact iteT ⟨_, rfl, p, C, dx, _, _, rfl, hp, R.ci.cl, R.nT, rf_top _ _, _, rfl, p, C, dx, _, _, rfl, hp, R.ci.cl, R.nB, rf_bot _ _, (by show 2 ≤ sizeLine; decide), k⟩
    | _ => cases hp
/-! ### == -/
/-- what == says of a Ratio n/m and d -/
def eqR (n m : Int) (d : D) : Bool := match prt d with
  | some (i, j) => n == i && m == j
  | none => false
def spEqR (C : Addr) : Sp := fun vs H Q _ => ∃ (a dx : Addr) (n m : Int) (d : D) (v : V), vs = [.ref a, v] ∧ H a = some (.ins C dx (rf n m)) ∧ At C H d v ∧ ∀ H', Same H H' → Q (.bl (eqR n m d)) H'
theorem scEq : FnScope ["self", "other"] ["self", "other"] (defScope sEq) := ⟨rfl, rfl, rfl, by decide +kernel, rfl, by decide +kernel, by decide +kernel⟩
theorem Same.new {H : Hp} {p : Addr} {o : HO} (h : H p = none) : Same H (upd H p o) := fun b u e => by
  rw [upd_ne (ne_of_none e h)]
  exact e
theorem ok_eq {f f1 f2 : Addr} {fd fd1 fd2 : FuncData} (F : Fun K "__eq__" "Ratio.__eq__" sEq f fd) (R : RatC K C) (G1 : Def P w K mg base CX0 2 "is_number" ["value"] (spIsNum C) f1 fd1) (G2 : Def P w K mg base CX0 1 "parts_of" ["number"] (spParts C) f2 fd2) :
    FnOk P w K mg base CX0 3 f fd ["self", "other"] (spEqR C) := by
  refine F.ok scEq (fun vs H Q E h => ?_) (fun cdv A outer s H vs Q E hr h => ?_)
  · obtain ⟨a, dx, n, m, d, v, rfl, _⟩ := h
    rfl
  · obtain ⟨a, dx, n, m, d, v, rfl, ha, at1, k⟩ := h
    refine ⟨_, pss_cons (ps_if (pt_not (pt_val (pe_def G1 hr (pa_cons (pv 1) pa_nil)))) (pss_one (ps_ret pe_bl)) pss_nil)
      (pss_one (ps_ret (pe_cmpR (op_eqD hr.units) (pe_tup (pa_cons (pe_fld (pv 0) rfl) (pa_cons (pe_fld (pv 0) rfl) pa_nil))) (pe_def G2 (hr.mono (by decide)) (pa_cons (pv 1) pa_nil)) (nomark _)))), ?_⟩
    refine ⟨_, rfl, d, v, rfl, at1, _, rfl, ?_⟩
    cases hp : prt d with
    | none =>
      refine if_true_of (by unfold isNum; rw [hp]; rfl) ?_
      have q := k H (Same.refl H)
      unfold eqR at q
      rw [hp] at q
      exact q
    | some ij =>
      obtain ⟨i, j⟩ := ij
      refine if_false_of (by unfold isNum; rw [hp]; rfl) ?_
      refine ⟨_, rfl, a, C, dx, _, _, rfl, ha, R.ci.cl, R.nT, rf_top _ _, _, rfl, a, C, dx, _, _, rfl, ha, R.ci.cl, R.nB, rf_bot _ _, (by show 2 ≤ sizeLine; decide), fun p np => ?_⟩
      refine ⟨_, rfl, d, v, i, j, rfl, at1.ex (Same.new np), hp, fun q nq => ?_⟩
      have hpq : (upd (upd H p (.tup [.int n, .int m])) q (.tup [.int i, .int j])) p = some (.tup [.int n, .int m]) := by
        rw [upd_ne (ne_of_none upd_same nq)]
        exact upd_same
      refine ⟨.tuple [.int n, .int m], .tuple [.int i, .int j], .tup (SqT.of hpq) (.cons (.int _) (.cons (.int _) .nil)), .tup (SqT.of upd_same) (.cons (.int _) (.cons (.int _) .nil)), rfl, rfl, ?_⟩
      have e : PyData.eqv (.tuple [.int n, .int m]) (.tuple [.int i, .int j]) = eqR n m d := by
        unfold eqR
        rw [hp]
        simp [PyData.eqv, PyData.eqvAll]
      rw [e]
      exact k _ ((Same.new np).trans (Same.new nq))
/-! ### a new Ratio -/
/-- the class with its __init__, to be called -/
structure RatM (P : Program) (w : World) (K : PySem.W.Frag) (mg : Str → Option Value) (base : Heap) (C CI f : Addr) (fd : FuncData) (ds : List Value) : Prop where
  m : Mk K C f
  ok : FnOk P w K mg base (L2.CX P w) 3 f fd ["self", "top", "bottom"] (spInit C CI)
  b2 : Binds K fd ["self", "top", "bottom"] []
  b1 : Binds K fd ["self", "top", "bottom"] ds
  d1 : Vals [.int 1] ds
/-- a promise of a new Ratio n / m behind the heap H -/
def New (C : Addr) (H : Hp) (n m : Int) (Q : VK) : Prop := ∀ (p dx : Addr) (H' : Hp), Same H H' → H p = none → H' p = some (.ins C dx (rf (rN n m) (rD n m))) → Q (.ref p) H'
theorem made_same {H : Hp} {x dx C : Addr} {fs : List (Str × V)} (nx : H x = none) (nd : H dx = none) (ne : dx ≠ x) : Same H (upd (upd (upd H dx (.own x)) x (.ins C dx [])) x (.ins C dx fs)) := fun b o e => by
  rw [upd_ne (ne_of_none e nx), upd_ne (ne_of_none e nx), upd_ne (ne_of_none e nd)]
  exact e
/-- Ratio(n, m) of ints, m not 0 -/
theorem init_int {CI x dx : Addr} {H : Hp} {n m : Int} {Q : VK} {E : XK} (nx : H x = none) (nd : H dx = none) (ne : dx ≠ x) (hm : m ≠ 0) (hl : m.natAbs.log2 < 9000) (k : New C H n m Q) :
    spInit C CI [.ref x, .int n, .int m] (upd (upd H dx (.own x)) x (.ins C dx [])) (fun v H2 => v = .non ∧ Q (.ref x) H2) E := by
  refine ⟨x, dx, _, _, .int n, .int m, rfl, upd_same, rfl, rfl, fun h => Bool.noConfusion h, fun _ h => ?_, fun n' m' e1 e2 _ => ?_⟩
  · rcases h with h | h
    · exact Bool.noConfusion h
    · cases h
      exact absurd rfl hm
  · cases e1
    cases e2
    exact ⟨hl, rfl, k x dx _ (made_same nx nd ne) nx upd_same⟩
theorem init_intR {CI x dx : Addr} {H : Hp} {n m : Int} {R : VK} {E : XK} (nx : H x = none) (nd : H dx = none) (ne : dx ≠ x) (hm : m ≠ 0) (hl : m.natAbs.log2 < 9000) (k : ∀ H', Same H H' → H' x = some (.ins C dx (rf (rN n m) (rD n m))) → R .non H') :
    spInit C CI [.ref x, .int n, .int m] (upd (upd H dx (.own x)) x (.ins C dx [])) R E := by
  refine ⟨x, dx, _, _, .int n, .int m, rfl, upd_same, rfl, rfl, fun h => Bool.noConfusion h, fun _ h => ?_, fun n' m' e1 e2 _ => ?_⟩
  · rcases h with h | h
    · exact Bool.noConfusion h
    · cases h
      exact absurd rfl hm
  · cases e1
    cases e2
    exact ⟨hl, k _ (made_same nx nd ne) upd_same⟩
/-! ### over -/
def isZero : D → Bool
  | .int i => i == 0
  | .rat i j => i == 0 && j == 1
  | _ => false
def badO (d : D) : Bool := !isNum d || isZero d
def small (n : Int) : Prop := n.natAbs.log2 < 4000
theorem log2_mul {a b : Nat} : (a * b).log2 ≤ a.log2 + b.log2 + 1 := by
  by_cases ha : a = 0
  · subst ha
    simp
  by_cases hb : b = 0
  · subst hb
    simp
  have h1 : a < 2 ^ (a.log2 + 1) := Nat.lt_log2_self
  have h2 : b < 2 ^ (b.log2 + 1) := Nat.lt_log2_self
  have h3 : a * b < 2 ^ (a.log2 + 1 + (b.log2 + 1)) := by
    rw [Nat.pow_add]
    exact Nat.mul_lt_mul'' h1 h2
  have h4 := (Nat.log2_lt (Nat.mul_ne_zero ha hb)).mpr h3
  omega
theorem small_mul {i j : Int} (h1 : small i) (h2 : small j) : CMulW i j := by
  unfold small at h1 h2
  unfold CMulW
  omega
theorem small_log {i j : Int} (h1 : small i) (h2 : small j) : (i * j).natAbs.log2 < 9000 := by
  unfold small at h1 h2
  rw [Int.natAbs_mul]
  have := @log2_mul i.natAbs j.natAbs
  omega
def spOver (C CI : Addr) : Sp := fun vs H Q E => ∃ (a dx : Addr) (n m : Int) (d : D) (v : V), vs = [.ref a, v] ∧ H a = some (.ins C dx (rf n m)) ∧ At C H d v ∧
  (badO d = true → ∀ (H' : Hp) (e : Addr), Same H H' → H' e = some (.xd [("value", v)]) → E (.ref CI) (some e) H') ∧
  (badO d = false → ∀ i j, prt d = some (i, j) → m * i ≠ 0 ∧ small n ∧ small m ∧ small i ∧ small j ∧ New C H (n * j) (m * i) Q)
theorem scOver : FnScope ["self", "other", "top", "bottom"] ["self", "other"] (defScope sOver) := ⟨rfl, rfl, rfl, by decide +kernel, rfl, by decide +kernel, by decide +kernel⟩
theorem nf_int : PySem.W.notFirst K C (.type "int") = true := by
  have e : PySem.W.subIn K (.type "int") (.ref C) = some false := by with_unfolding_all rfl
  unfold PySem.W.notFirst
  rw [e]
  simp
theorem zero_eq {H : Hp} {d : D} {v : V} {Q : VK} (a : At C H d v) (hn : isNum d = true) (k : ∀ H1, Same H H1 → Q (.bl (isZero d)) H1) : rEq v (.int 0) H Q ∨ rOwn K C (spEqR C) E0 v (.int 0) H Q := by
  cases d with
  | int i =>
    obtain rfl : v = .int i := a
    refine .inl ⟨rfl, ?_⟩
    rw [dec_int]
    exact k H (Same.refl H)
  | rat i j =>
    obtain ⟨p, dx, rfl, hp⟩ := a
    exact .inr ⟨p, dx, _, .type "int", rfl, hp, .base (.int 0), nf_int, p, dx, i, j, .int 0, .int 0, rfl, hp, rfl, fun H' s => k H' s⟩
  | _ => cases hn
theorem ok_over {f f1 f2 f3 fe CI fX : Addr} {fd fd1 fd2 fd3 fde fdX : FuncData} {ds : List Value} (F : Fun K "over" "Ratio.over" sOver f fd) (R : RatC K C) (R2 : RatK K mg C) (I : IN P w K mg base CI fX fdX)
    (G1 : Def P w K mg base CX0 2 "is_number" ["value"] (spIsNum C) f1 fd1) (G2 : Def P w K mg base CX0 1 "parts_of" ["number"] (spParts C) f2 fd2) (M : RatM P w K mg base C CI f3 fd3 ds)
    (Ge : FnOk P w K mg base CX0 3 fe fde ["self", "other"] (spEqR C)) (be : Binds K fde ["self", "other"] []) (he : PySem.W.findIn K (.ref C) "__eq__" = some (some (.ref fe))) (hfe : PySem.W.isFn K (.ref fe) = true) :
    FnOk P w K mg base (L2.CX P w) 5 f fd ["self", "other"] (spOver C CI) := by
  refine F.okX scOver (fun vs H Q E h => ?_) (fun cdv A outer s H vs Q E hr h => ?_)
  · obtain ⟨a, dx, n, m, d, v, rfl, _⟩ := h
    rfl
  · obtain ⟨a, dx, n, m, d, v, rfl, ha, at1, kE, kQ⟩ := h
    refine ⟨_, pss_cons (ps_if (PW.pt (pw_or (pt_not (pt_val (pe_def G1 (hr.mono (by decide)) (pa_cons (pv 1) pa_nil)))) (pw_or1 (pt_cmpR (OpR.or op_eq (op_own (C := C) Ge (hr.mono (by decide)) he hfe be pass0 fun _ _ => rfl)) (pv 1) pe_int (nomark _)))))
        (pss_one (ps_raiseX rfl I.e I.ok (hr.mono (by decide)) I.b pass0 (takes_of rfl rfl rfl rfl) (pv 1) (tVar_mono 1))) pss_nil)
      (pss_cons (ps_asg (pe_def G2 (hr.mono (by decide)) (pa_cons (pv 1) pa_nil)) (pg_tup rfl (pgs_cons (pg_name (i := 2) scOver.nd rfl (.inl rfl)) (pgs_cons (pg_name (i := 3) scOver.nd rfl (.inl rfl)) pgs_nil))))
      (pss_one (ps_ret (pe_make M.m M.ok hr rfl R2.g M.b2 .nil passL (pa_cons (pe_op op_mulW (pe_fld (pv 0) rfl) (pv 3)) (pa_cons (pe_op op_mulW (pe_fld (pv 0) rfl) (pv 2)) pa_nil)))))), ?_⟩
    refine ⟨_, rfl, d, v, rfl, at1, _, rfl, ?_⟩
    cases hn : isNum d with
    | false =>
      exact if_true_of rfl (iteT ⟨_, rfl, _, rfl, fun e he => kE (by unfold badO; rw [hn]; rfl) _ e (Same.new he) upd_same⟩)
    | true =>
      refine if_false_of rfl ⟨_, rfl, zero_eq at1 hn fun H1 s1 => ⟨_, rfl, ?_⟩⟩
      cases hz : isZero d with
      | true => exact iteT ⟨_, rfl, _, rfl, fun e he => kE (by unfold badO; rw [hz]; simp) _ e (s1.trans (Same.new he)) upd_same⟩
      | false =>
        obtain ⟨⟨i, j⟩, hp⟩ := Option.isSome_iff_exists.mp (show (prt d).isSome = true from hn)
        obtain ⟨hmi, sn, sm, si, sj, k⟩ := kQ (by unfold badO; rw [hn, hz]; rfl) i j hp
        have ha1 := s1 _ _ ha
        refine iteF ⟨_, rfl, d, v, i, j, rfl, at1.ex s1, hp, fun q nq => ?_⟩
        have ha2 := Same.new (o := .tup [.int i, .int j]) nq _ _ ha1
        refine ⟨q, _, rfl, SqT.of upd_same, rfl, _, _, rfl, _, _, rfl, rfl, ?_⟩
        refine ⟨_, rfl, a, C, dx, _, _, rfl, ha2, R.ci.cl, R.nT, rf_top _ _, _, rfl, _, _, rfl, rfl, small_mul sn sj, _, rfl, a, C, dx, _, _, rfl, ha2, R.ci.cl, R.nB, rf_bot _ _, _, rfl, _, _, rfl, rfl, small_mul sm si, fun x dx' nx nd ne => ?_⟩
        have s2 := s1.trans (Same.new (o := .tup [.int i, .int j]) nq)
        exact init_int nx nd ne hmi (small_log sm si) fun p dx2 H' s3 np hp => k p dx2 H' (s2.trans s3) (s2.free np) hp
end
end Fu

namespace Fu
open PySem L2
open PyProof.Rows hiding St
open L2H (RoomH roomH_of)
section
variable {P : Program} {w : World} {K : PySem.W.Frag} {mg : Str → Option Value} {base : Heap} {C : Addr}
/-! ### repr -/
theorem int_len {i : Int} (h : i.natAbs.log2 < 1920) : (Str.ofString (toString i)).length ≤ 1921 := by
  rw [PySem.ofString_length]
  exact int_text_length_le (k := 1920) (by decide) h
theorem scRepr : FnScope ["self"] ["self"] (defScope sRepr) := ⟨rfl, rfl, rfl, by decide +kernel, rfl, by decide +kernel, by decide +kernel⟩
theorem ok_repr {f : Addr} {fd : FuncData} (F : Fun K "__repr__" "Ratio.__repr__" sRepr f fd) (gs : mg "str" = none) (R : RatC K C) : FnA P w K mg base 1 f fd ["self"] (spRepr C) := by
  refine Fun.okA F scRepr (fun vs H Q E h => ?_) (fun cdv A outer s H vs Q E hr h => ?_)
  · obtain ⟨a, dx, n, m, rfl, _⟩ := h
    rfl
  · obtain ⟨a, dx, n, m, rfl, ha, hn, hm, k⟩ := h
    refine ⟨_, pss_cons (ps_if (pt_cmpR op_eq (pe_fld (pv 0) rfl) pe_int (nomark _)) (pss_one (ps_ret (pe_callTy call_str_int (by rfl) gs (by decide +kernel) (pa_cons (pe_fld (pv 0) rfl) pa_nil)))) pss_nil)
      (pss_one (ps_ret (pe_joined (.cons (pe_fmt (pe_fld (pv 0) rfl)) (.cons pe_str (.cons (pe_fmt (pe_fld (pv 0) rfl)) .nil)))))), ?_⟩
    refine ⟨_, rfl, a, C, dx, _, _, rfl, ha, R.ci.cl, R.nB, rf_bot _ _, rfl, _, rfl, ?_⟩
    by_cases e : m = 1
    · subst e
      refine if_true_of (by simp) ⟨_, rfl, a, C, dx, _, _, rfl, ha, R.ci.cl, R.nT, rf_top _ _, _, rfl, by omega, ?_⟩
      unfold rTxt at k
      rw [if_pos rfl] at k
      exact k
    · refine if_false_of (by simpa using e) ⟨_, rfl, a, C, dx, _, _, rfl, ha, R.ci.cl, R.nT, rf_top _ _, .inr ⟨_, rfl, by omega, ?_⟩⟩
      have l1 := int_len (i := n) (by omega)
      have l2 := int_len (i := m) (by omega)
      have lS : (Str.ofString "/").length = 1 := by decide +kernel
      refine ⟨_, rfl, by rw [Str.empty_append, sizeLine_eq]; omega, _, rfl, by rw [Str.empty_append, Str.length_append, lS, sizeLine_eq]; omega, ?_⟩
      refine ⟨_, rfl, a, C, dx, _, _, rfl, ha, R.ci.cl, R.nB, rf_bot _ _, .inr ⟨_, rfl, by omega, _, rfl, by rw [Str.empty_append, Str.length_append, Str.length_append, lS, sizeLine_eq]; omega, ?_⟩⟩
      unfold rTxt at k
      rw [if_neg e] at k
      rw [Str.empty_append]
      exact k
end
end Fu

namespace Fu
open PySem L2
open PyProof.Rows hiding St
open L2H (RoomH roomH_of)
abbrev sPool : Stmt := topS 11
abbrev sTake : Stmt := topS 12
structure Bu (mg : Str → Option Value) : Prop where
  len : mg "len" = none
  abs : mg "abs" = none
  int : mg "int" = none
section
variable {P : Program} {w : World} {K : PySem.W.Frag} {mg : Str → Option Value} {base : Heap} {C : Addr}
/-! ### the pool -/
theorem b01 (b : Bool) : -(2 ^ 64 : Int) < (if b = true then 1 else 0) ∧ (if b = true then (1 : Int) else 0) < 2 ^ 64 ∧ (0 : Int) ≤ (if b = true then 1 else 0) := by cases b <;> decide
def spPool (K : PySem.W.Frag) : Sp := fun vs H Q _ => ∃ (a : Addr) (ns : List Int) (k : Nat), vs = [.ref a, .int k] ∧ SqL K H a (ns.map V.int) ∧ k ≤ 63 ∧
  ∀ (p : Addr) (x y : Int), H p = none → 0 ≤ x → 0 ≤ y → Q (.ref p) (upd H p (.lst [.int x, .int y]))
theorem scPool : FnScope ["_law_script", "_law_k", "_law_cell", "_law_size", "_law_seed"] ["_law_script", "_law_k"] (defScope sPool) := ⟨rfl, rfl, rfl, by decide +kernel, rfl, by decide +kernel, by decide +kernel⟩
theorem ok_pool {f : Addr} {fd : FuncData} (F : Fun K "_law_pool" "_law_pool" sPool f fd) (B : Bu mg) : FnOk P w K mg base CX0 1 f fd ["_law_script", "_law_k"] (spPool K) := by
  refine F.ok scPool (fun vs H Q E h => ?_) (fun cdv A outer s H vs Q E hr h => ?_)
  · obtain ⟨a, ns, k, rfl, _⟩ := h
    rfl
  · obtain ⟨a, ns, k, rfl, hS, hk, kQ⟩ := h
    refine ⟨_, pss_cons (ps_set (i := 2) scPool.nd rfl (Or.inl rfl) pe_int)
      (Evl.pss_cut (ps_if (pt_cmpR op_lt (pv 1) (pe_callB call_len_seq (by rfl) B.len PySem.boot_len (pa_cons (pv 0) pa_nil)) (nomark _)) (pss_one (ps_set (i := 2) scPool.nd rfl (Or.inl rfl) (pe_ix ix_list (pv 0) (pv 1) (fun _ _ => rfl)))) pss_nil)
      (pss_cons (ps_set (i := 3) scPool.nd rfl (Or.inl rfl) (pe_callB call_abs (by rfl) B.abs (by decide +kernel) (pa_cons (pv 2) pa_nil)))
      (pss_cons (ps_set (i := 4) scPool.nd rfl (Or.inl rfl) (pe_op op_mod (pe_op op_pow (pe_op op_add (pe_op op_add (pe_op op_add (pe_op op_mod (pv 2) pe_int) (pe_op op_mul (pe_op op_mul pe_int (pv 1)) (pv 1))) (pe_op op_mul pe_int (pv 1))) pe_int) pe_int) pe_int))
      (pss_one (ps_ret (pe_lst (pa_cons (pe_op op_mul (pv 3) (pe_callTy call_int1 (by rfl) B.int (by decide +kernel) (pa_cons (pe_cmpR op_ge (pv 3) (pe_op op_pow pe_int pe_int) (nomark _)) pa_nil))) (pa_cons (pv 4) pa_nil)))))))), ?_⟩
    refine ⟨fun σ' H' => H' = H ∧ ∃ c : Int, σ' = [some (.ref a), some (.int k), some (.int c), none, none], ?_, ?_⟩
    · refine ⟨_, rfl, _, rfl, a, _, rfl, .inl hS, _, _, rfl, rfl, _, rfl, ?_⟩
      by_cases hlt : k < ns.length
      · refine if_true_of (by simpa using hlt) ⟨_, rfl, _, rfl, a, _, _, .int (ns[k]'hlt), rfl, rfl, hS, ?_, rfl, _, rfl⟩
        rw [atI_nat (j := k) (v := .int (ns[k]'hlt))]
        simp [hlt]
      · exact if_false_of (by simpa using hlt) ⟨rfl, 0, rfl⟩
    · rintro σ' H' ⟨rfl, c, rfl⟩
      have hm := Int.emod_nonneg c (show (2147483629 : Int) ≠ 0 by decide)
      have hM := Int.emod_lt_of_pos c (show (0 : Int) < 2147483629 by decide)
      have hkk : (104729 : Int) * k * k ≤ 104729 * 63 * 63 := by
        have h1 : (k : Int) ≤ 63 := by omega
        have h2 : (104729 : Int) * k ≤ 104729 * 63 := by omega
        exact Int.mul_le_mul h2 h1 (by omega) (by omega)
      have hk0 : (0 : Int) ≤ 104729 * k * k := Int.mul_nonneg (by omega) (by omega)
      refine ⟨_, rfl, _, rfl, ?_⟩
      refine ⟨_, rfl, _, _, rfl, rfl, (by show (0 : Int) < 2147483629; decide), _, rfl, _, _, rfl, rfl, .inl ⟨by decide, by decide⟩, _, rfl, _, _, rfl, rfl, .inr ⟨by omega, by omega⟩, _, _, rfl, rfl, _, rfl, _, _, rfl, rfl, .inl ⟨by decide, by decide⟩, _, _, rfl, rfl, _, _, rfl, rfl, _, _, rfl, rfl,
        ⟨by decide, by decide, by omega⟩, _, _, rfl, rfl, (by show (0 : Int) < 2147483647; decide), ?_⟩
      refine ⟨_, rfl, _, rfl, _, _, rfl, rfl, ⟨by decide, by decide, by decide⟩, _, _, rfl, rfl, .inr ⟨_, rfl, _, _, rfl, rfl, .inr ⟨(b01 _).1, (b01 _).2.1⟩, _, rfl, (by show 2 ≤ sizeLine; decide), fun p hp => ?_⟩⟩
      refine kQ p _ _ hp (Int.mul_nonneg (by split <;> omega) (b01 _).2.2) (Int.emod_nonneg _ (by decide))
/-! ### the draws -/
def spTake : Sp := fun vs H Q _ => ∃ (p : Addr) (x y m : Int), vs = [.ref p, .int m] ∧ H p = some (.lst [.int x, .int y]) ∧ 0 ≤ x ∧ 0 ≤ y ∧ 0 < m ∧ m.natAbs.log2 < 9000 ∧
  ∀ (x' y' r : Int), 0 ≤ x' → 0 ≤ y' → 0 ≤ r → r < m → Q (.int r) (upd H p (.lst [.int x', .int y']))
theorem scTake : FnScope ["_law_pool_here", "_law_many", "_law_found"] ["_law_pool_here", "_law_many"] (defScope sTake) := ⟨rfl, rfl, rfl, by decide +kernel, rfl, by decide +kernel, by decide +kernel⟩
theorem ok_take {f : Addr} {fd : FuncData} (F : Fun K "_law_take" "_law_take" sTake f fd) : FnOk P w K mg base CX0 1 f fd ["_law_pool_here", "_law_many"] spTake := by
  refine F.ok scTake (fun vs H Q E h => ?_) (fun cdv A outer s H vs Q E hr h => ?_)
  · obtain ⟨p, x, y, m, rfl, _⟩ := h
    rfl
  · obtain ⟨p, x, y, m, rfl, hp, hx, hy, hm, hl, k⟩ := h
    have it0 : atI [V.int x, V.int y] 0 = some (.int x) := rfl
    refine ⟨_, pss_cons (ps_if (pt_cmpR op_gt (pe_ix ix_list (pv 0) pe_int (fun _ _ => rfl)) pe_int (nomark _))
        (pss_cons (ps_set (i := 2) scTake.nd rfl (Or.inl rfl) (pe_op op_mod (pe_ix ix_list (pv 0) pe_int (fun _ _ => rfl)) (pv 1)))
        (pss_cons (ps_asg (pe_op op_fdivB (pe_ix ix_list (pv 0) pe_int (fun _ _ => rfl)) (pv 1)) (pg_sub (pv 0) pe_int set_list))
        (pss_one (ps_ret (pv 2))))) pss_nil)
      (pss_cons (ps_asg (pe_op op_mod (pe_op op_add (pe_op op_mul (pe_ix ix_list (pv 0) pe_int (fun _ _ => rfl)) pe_int) pe_int) pe_int) (pg_sub (pv 0) pe_int set_list))
      (pss_one (ps_ret (pe_op op_mod (pe_op op_fdiv (pe_op op_mod (pe_op op_mulW (pe_ix ix_list (pv 0) pe_int (fun _ _ => rfl)) (pe_ix ix_list (pv 0) pe_int (fun _ _ => rfl))) pe_int) pe_int) (pv 1))))), ?_⟩
    refine ⟨_, rfl, p, _, _, _, rfl, rfl, SqL.of hp, rfl, _, _, rfl, rfl, _, rfl, ?_⟩
    by_cases h0 : 0 < x
    · refine if_true_of (by simpa using h0) ⟨_, rfl, p, _, _, _, rfl, rfl, SqL.of hp, rfl, _, rfl, _, _, rfl, rfl, hm, ?_⟩
      refine ⟨_, rfl, p, _, _, _, rfl, rfl, SqL.of hp, rfl, _, rfl, _, _, rfl, rfl, ⟨by omega, hl⟩, ?_⟩
      refine ⟨_, rfl, p, _, _, 0, rfl, rfl, hp, rfl, _, rfl, ?_⟩
      exact k _ _ _ (by rw [Int.fdiv_eq_ediv_of_nonneg _ (by omega)]; exact Int.ediv_nonneg hx (by omega)) hy (Int.emod_nonneg _ (by omega)) (Int.emod_lt_of_pos _ hm)
    · refine if_false_of (by simpa using h0) ⟨_, rfl, p, _, _, _, rfl, rfl, SqL.of hp, rfl, _, _, rfl, rfl, .inr ⟨by decide, by decide⟩, _, _, rfl, rfl, _, _, rfl, rfl, (by show (0 : Int) < 2147483647; decide), ?_⟩
      have b1 := Int.emod_nonneg (y * 48271 + 11) (show (2147483647 : Int) ≠ 0 by decide)
      have b2 := Int.emod_lt_of_pos (y * 48271 + 11) (show (0 : Int) < 2147483647 by decide)
      have bw : CMulW ((y * 48271 + 11) % 2147483647) ((y * 48271 + 11) % 2147483647) := wide_mul (a := 32) (b := 32) (by omega) (by omega) (by decide) (by decide) (by decide)
      refine ⟨_, rfl, p, _, _, 1, rfl, rfl, hp, rfl, _, rfl, p, _, _, _, rfl, rfl, SqL.of upd_same, rfl, _, rfl, p, _, _, _, rfl, rfl, SqL.of upd_same, rfl, _, _, rfl, rfl, bw, _, _, rfl, rfl, (by show (0 : Int) < 2147483629; decide), _, _, rfl, rfl, ⟨by decide, by decide⟩, _, rfl, _, _, rfl, rfl, hm, ?_⟩
      exact k _ _ _ hx b1 (Int.emod_nonneg _ (by omega)) (Int.emod_lt_of_pos _ hm)
end
end Fu

namespace Fu
open PySem L2
open PyProof.Rows hiding St
open L2H (RoomH roomH_of)
abbrev sRaised : Stmt := topS 13
/-- what is told of InvalidNumber beside its making -/
structure InX (K : PySem.W.Frag) (CI : Addr) : Prop where
  x : ExcC K CI
  te : PySem.W.exmOne K (.ref CI) (.ref CI) = some true
  kv : PySem.W.kitOne K (.ref CI) (.type "ValueError") = some true
/-- the value that is told, if one is -/
def told (door : Int) (d1 d2 : D) : Option D :=
  if door = 0 then (if isInt d1 = false then some d1 else if isInt d2 = false ∨ isZero d2 = true then some d2 else none) else (if badO d1 = true then some d1 else none)
def spRaised (C : Addr) : Sp := fun vs H Q _ => ∃ (door : Int) (d1 d2 : D) (v1 v2 : V), vs = [.int door, v1, v2] ∧ At C H d1 v1 ∧ At C H d2 v2 ∧ (door ≠ 0 → badO d1 = true) ∧
  (told door d1 d2 = none → ∀ m, d2 = .int m → m.natAbs.log2 < 9000) ∧ (∀ e, told door d1 d2 = some e → shw e = true) ∧
  (told door d1 d2 = none → ∀ H', Same H H' → Q .non H') ∧
  (∀ e, told door d1 d2 = some e → ∀ (H' : Hp) (p : Addr), Same H H' → H p = none → H' p = some (.lst [.str (txt e), .bl true]) → Q (.ref p) H')
section
variable {P : Program} {w : World} {K : PySem.W.Frag} {mg : Str → Option Value} {base : Heap} {C : Addr}
theorem scRaised : FnScope ["_law_door", "_law_one", "_law_other", "e"] ["_law_door", "_law_one", "_law_other"] (defScope sRaised) := ⟨rfl, rfl, rfl, by decide +kernel, rfl, by decide +kernel, by decide +kernel⟩
def tb11 (C CI : Addr) (W : WX) : TS := tIfS (tTest (tOp rEq (tVar 0) (tC (.int 0)))) (tDrop (tMakeS C (spInit C CI) [] (WE W) (tCons (tVar 1) (tCons (tVar 2) tNil))))
  (tDrop (tMethS C "over" (spOver C CI) [] (WE W) (tMake C (spInit C CI) [] E0 (tCons (tC (.int 3)) (tCons (tC (.int 4)) tNil))) (tCons (tVar 1) tNil)))
def ts11 (K : PySem.W.Frag) (C CI : Addr) : Addr → Value → Option Addr → TS := fun a cls d => tRet (tLst (tCons (tCB (rRepr C) (tCons (tXf a cls d CI "value" (tVar 3)) tNil)) (tCons (tCB (rIsX K CI a cls d) (tCons (tVar 3) (tCons (tC (.ty "ValueError")) tNil))) tNil)))
theorem ok_raised {f f3 fo fr CI fX : Addr} {fd fd3 fdo fdr fdX : FuncData} {ds : List Value} (F : Fun K "_law_raised" "_law_raised" sRaised f fd) (B : Bt mg) (hrepr : mg "repr" = none) (hve : mg "ValueError" = none) (R : RatC K C) (R2 : RatK K mg C) (I : IN P w K mg base CI fX fdX) (I2 : InX K CI)
    (M : RatM P w K mg base C CI f3 fd3 ds) (Go : FnOk P w K mg base (L2.CX P w) 5 fo fdo ["self", "other"] (spOver C CI)) (bo : Binds K fdo ["self", "other"] []) (mo : Meth K C "over" fo) (T : ReprC P w K mg base C fr fdr (spRepr C)) :
    FnG P w K mg base CX0 7 f fd ["_law_door", "_law_one", "_law_other"] (spRaised C) := by
  refine Fun.okG F scRaised (fun vs H Q E h => ?_) (fun cdv A outer s H vs Q E hr h => ?_)
  · obtain ⟨door, d1, d2, v1, v2, rfl, _⟩ := h
    rfl
  · obtain ⟨door, d1, d2, v1, v2, rfl, at1, at2, hd, hs, hw, kN, kL⟩ := h
    refine ⟨_, pss_cons (ps_try_as (i := 3) (tb := tb11 C CI) (ts := ts11 K C CI) (Wout := fun _ _ _ _ => False) rfl rfl scRaised.nd rfl rfl ⟨rfl, by decide, Or.inl I.e.gC⟩ takes0
        (fun W pn xe tk _ => pss_one (ps_if (pt_cmpR op_eq (pv 0) pe_int (nomark _))
          (pss_one (ps_expr (pe_makeS M.m M.ok (hr.r.mono (by decide)) rfl R2.g M.b2 .nil (fun σ => passAt tk σ) (pa_cons (pv 1) (pa_cons (pv 2) pa_nil)))))
          (pss_one (ps_expr (pe_methS (pe_make M.m M.ok (hr.r.mono (by decide)) rfl R2.g M.b2 .nil passL (pa_cons pe_int (pa_cons pe_int pa_nil))) R.ci.cl mo Go (hr.r.mono (by decide)) bo .nil (fun σ => passAt tk σ) (pa_cons (pv 1) pa_nil))))))
        (fun a oe cls d pn hz hf => pss_one (ps_ret (pe_lst (pa_cons (pe_callB (call_reprD T hr.g (RoomH.mark ((roomH_of hr.r).mono (show 2 ≤ 6 by decide)) _)) (by rfl) hrepr (by decide +kernel) (pa_cons (pe_xf I.e.xf I.e.noF hz hf (pv 3)) pa_nil))
          (pa_cons (pe_callB (call_isX I2.x hz hf) (by rfl) B.isi (by decide +kernel) (pa_cons (pv 3) (pa_cons (pe_bltn (v := .ty "ValueError") (by rfl) hve (by decide +kernel) rfl) pa_nil))) pa_nil))))))
      (pss_one (ps_ret pe_non)), ?_⟩
    have ew : ∀ (De : Ends) (e : D) (v : V) (H0 : Hp) (dd : Addr), De.rt = Q → told door d1 d2 = some e → At C H e v → Same H H0 → H0 dd = some (.xd [("value", v)]) →
        wAs K (.ref CI) 3 (ts11 K C CI) (fun _ _ _ _ => False) De (.ref CI) (some dd) [some (.int door), some v1, some v2, none] H0 := by
      intro De e v H0 dd hD he ae s0 hdd
      refine ⟨true, I2.te, fun _ a ha => ?_, fun q => Bool.noConfusion q⟩
      refine ⟨_, rfl, rfl, rfl, dd, _, v, rfl, hdd, (by simp [List.lookup]), e, v, rfl, ae.ex s0, hw e he, _, rfl, .ty "ValueError", _, true, dd, _, rfl, .ty _, rfl, rfl, hdd, I2.kv, (by show 2 ≤ sizeLine; decide), fun p hp => ?_⟩
      show De.rt (.ref p) _
      rw [hD]
      exact kL e he _ p (s0.trans (Same.new hp)) (s0.free hp) upd_same
    refine ⟨_, rfl, rfl, _, rfl, ?_⟩
    by_cases h0 : door = 0
    · subst h0
      refine if_true_of (by simp) ⟨_, rfl, _, rfl, fun x dx nx nd ne => ?_⟩
      have s0 : Same H (upd (upd H dx (.own x)) x (.ins C dx [])) := fun b o e => by
        rw [upd_ne (ne_of_none e nx), upd_ne (ne_of_none e nd)]
        exact e
      refine ⟨x, dx, v1, v2, d1, d2, rfl, upd_same, at1.ex s0, at2.ex s0, fun i1 d hd0 => ?_, fun i1 i2 d hd0 => ?_, fun n m e1 e2 hm => ?_⟩
      · exact ew _ d1 v1 _ d rfl (by unfold told; rw [if_pos rfl, if_pos i1]) at1 (s0.trans (Same.new hd0)) upd_same
      · refine ew _ d2 v2 _ d rfl ?_ at2 (s0.trans (Same.new hd0)) upd_same
        unfold told
        rw [if_pos rfl, if_neg (by rw [i1]; decide), if_pos]
        rcases i2 with i2 | i2
        · exact .inl i2
        · rw [i2]
          exact .inr rfl
      · have tn : told 0 d1 d2 = none := by
          rw [e1, e2]
          unfold told
          rw [if_pos rfl, if_neg (fun z => Bool.noConfusion z), if_neg]
          rintro (z | z)
          · cases z
          · exact hm (by simpa [isZero] using z)
        exact ⟨hs tn m e2, rfl, kN tn _ (made_same nx nd ne)⟩
    · refine if_false_of (by simpa using h0) fun p dx2 nx nd ne => init_intR (n := 3) (m := 4) nx nd ne (by decide) (by decide) fun H' s1 hp => ⟨rfl, ?_⟩
      have tb : badO d1 = true := hd h0
      have tn : told door d1 d2 = some d1 := by
        unfold told
        rw [if_neg h0, if_pos tb]
      refine ⟨p, dx2, _, rfl, hp, rf_no _ _ (by decide +kernel) (by decide +kernel), _, rfl, p, dx2, _, _, d1, v1, rfl, hp, at1.ex s1, fun _ H2 e s2 he => ?_, fun z => ?_⟩
      · exact ew _ d1 v1 H2 e rfl tn at1 (s1.trans s2) he
      · rw [tb] at z
        cases z
end
end Fu

namespace Fu
open PySem L2
open PyProof.Rows hiding St
open L2H (RoomH roomH_of)
abbrev sLaw : Stmt := topS 14
theorem Ats.get {C : Addr} {H : Hp} : ∀ {l : List D} {xs : List V} {i : Nat} {x : V}, Ats C H l xs → xs[i]? = some x → ∃ d, l[i]? = some d ∧ At C H d x
  | [], _, i, x, h, e => by
    cases h
    simp at e
  | d :: l, _, 0, x, h, e => by
    obtain ⟨y, r, rfl, h1, _⟩ := h
    cases e
    exact ⟨d, rfl, h1⟩
  | d :: l, _, i + 1, x, h, e => by
    obtain ⟨y, r, rfl, _, h2⟩ := h
    obtain ⟨d', e', a⟩ := Ats.get (i := i) h2 (by simpa using e)
    exact ⟨d', by simpa using e', a⟩
theorem Ats.len {C : Addr} {H : Hp} : ∀ {l : List D} {xs : List V}, Ats C H l xs → xs.length = l.length
  | [], _, h => by cases h; rfl
  | d :: l, _, h => by
    obtain ⟨y, r, rfl, _, h2⟩ := h
    show r.length + 1 = l.length + 1
    rw [Ats.len h2]
def turns (L : Int) : Int := if (if 6 < L then (6 : Int) else L) > 1 then (if 6 < L then (6 : Int) else L) else 1
theorem turns_le (L : Int) : turns L ≤ 6 ∧ -(2 ^ 62 : Int) ≤ turns L := by
  unfold turns
  split <;> split <;> omega
def odds : List D := [.non, .bl true, .bl false, .str "1", .tup [.int 1], .lst [.int 2], .dic, .rat (rN 1 2) (rD 1 2)]
theorem odds_ok : ∀ d ∈ odds, isInt d = false ∧ shw d = true := by decide +kernel
def bots : List D := odds ++ [.int 0]
theorem bots_ok : ∀ d ∈ bots, (isInt d = false ∨ isZero d = true) ∧ shw d = true := by decide +kernel
def vals4 : List D := [.int 0, .rat (rN 0 1) (rD 0 1), .rat (rN 0 7) (rD 0 7), .non, .bl true, .str "1", .tup [.int 1], .lst [.int 2], .dic]
theorem vals4_ok : ∀ d ∈ vals4, badO d = true ∧ shw d = true := by decide +kernel
def vals5 : List D := [.bl true, .non, .str "1", .tup [.int 1, .int 1], .lst [.int 1], .dic]
theorem vals5_ok : ∀ d ∈ vals5, eqR (rN 1 1) (rD 1 1) d = false := by decide +kernel
theorem vals5_nr : ∀ d ∈ vals5, ∀ n m, d ≠ .rat n m := by
  intro d h n m e
  subst e
  simp [vals5] at h
theorem one_one : eqR (rN 1 1) (rD 1 1) (.int 1) = true := by decide +kernel
theorem zero_bot : rD 0 (-5) = 1 := by decide +kernel
def one2 (d : D) : PyData := .list [.str (txt d), .bool true]
theorem one2_self (d : D) : PyData.eqv (one2 d) (one2 d) = true := by simp [one2, PyData.eqv, PyData.eqvAll]
def four2 (d : D) : PyData := .list (List.replicate 4 (one2 d))
theorem four2_self (d : D) : PyData.eqv (four2 d) (four2 d) = true := by simp [four2, one2, PyData.eqv, PyData.eqvAll, List.replicate]
theorem odds_sh : ∀ d ∈ odds, SeqAt.shaped (four2 d) = true := by decide +kernel
theorem bots_sh : ∀ d ∈ bots, SeqAt.shaped (one2 d) = true := by decide +kernel
theorem vals4_sh : ∀ d ∈ vals4, SeqAt.shaped (one2 d) = true := by decide +kernel
def bot4 : List D := [.int 0, .non, .bl true, .int 5]
theorem told0 {d d2 : D} (h : isInt d = false) : told 0 d d2 = some d := by
  unfold told
  rw [if_pos rfl, if_pos h]
theorem told0b {t : Int} {d2 : D} (h : isInt d2 = false ∨ isZero d2 = true) : told 0 (.int t) d2 = some d2 := by
  unfold told
  rw [if_pos rfl, if_neg (fun z => Bool.noConfusion z), if_pos h]
theorem told0n {t m : Int} (h : m ≠ 0) : told 0 (.int t) (.int m) = none := by
  unfold told
  rw [if_pos rfl, if_neg (fun z => Bool.noConfusion z), if_neg]
  rintro (z | z)
  · cases z
  · exact h (by simpa [isZero] using z)
theorem told1 {d d2 : D} (h : badO d = true) : told 1 d d2 = some d := by
  unfold told
  rw [if_neg (by decide), if_pos h]
theorem dp_all {K : PySem.W.Frag} {H : Hp} {e : PyData} : ∀ {xs : List V}, (∀ v ∈ xs, Dp K H v e) → DpAll K H xs (List.replicate xs.length e)
  | [], _ => .nil
  | v :: xs, h => .cons (h v (List.mem_cons_self ..)) (dp_all fun u hu => h u (List.mem_cons_of_mem _ hu))
theorem dp_one {K : PySem.W.Frag} {H : Hp} {p : Addr} {d : D} (h : H p = some (.lst [.str (txt d), .bl true])) : Dp K H (.ref p) (one2 d) := .lst (SqL.of h) (.cons (.str _) (.cons (.bl _) .nil))
theorem Ats.app {C : Addr} {H : Hp} {l' : List D} {ys : List V} (h' : Ats C H l' ys) : ∀ {l : List D} {xs : List V}, Ats C H l xs → Ats C H (l ++ l') (xs ++ ys)
  | [], _, h => by
    cases h
    exact h'
  | d :: l, _, h => by
    obtain ⟨y, r, rfl, h1, h2⟩ := h
    exact ⟨y, r ++ ys, rfl, h1, Ats.app h' h2⟩
theorem nf_D (K : PySem.W.Frag) (C : Addr) (d : D) : PySem.W.notFirst K C (tyD C d) = true := by
  have e : ∀ T : String, PySem.W.subIn K (.type T) (.ref C) = some false → PySem.W.notFirst K C (.type T) = true := fun T e => by
    unfold PySem.W.notFirst
    rw [e]
    simp
  cases d with
  | rat n m => simp [tyD, PySem.W.notFirst]
  | _ => exact e _ (by with_unfolding_all rfl)
structure Bl (mg : Str → Option Value) : Prop where
  range : mg "range" = none
  max : mg "max" = none
  min : mg "min" = none
  len : mg "len" = none
  repr : mg "repr" = none
/-- Ratio's comparisons and its property bottom -/
structure RatE (P : Program) (w : World) (K : PySem.W.Frag) (mg : Str → Option Value) (base : Heap) (C fe : Addr) (fde : FuncData) : Prop where
  ok : FnOk P w K mg base CX0 3 fe fde ["self", "other"] (spEqR C)
  b : Binds K fde ["self", "other"] []
  h : PySem.W.findIn K (.ref C) "__eq__" = some (some (.ref fe))
  hf : PySem.W.isFn K (.ref fe) = true
  ne : PySem.W.findIn K (.ref C) "__ne__" = some (some (.builtin "object.__ne__"))
  nb : NoB K C
def spLaw (K : PySem.W.Frag) : Sp := fun vs H Q _ => ∃ (a : Addr) (ns : List Int), vs = [.ref a] ∧ SqL K H a (ns.map V.int) ∧ ns.length ≤ 63 ∧ ∀ H', Q (.bl true) H'
section
variable {P : Program} {w : World} {K : PySem.W.Frag} {mg : Str → Option Value} {base : Heap} {C : Addr}
abbrev nLaw : List Str := ["_law_script", "_law_k", "_law_pool_here", "_law_top", "_law_odds", "_law_odd", "_law_bottom", "_law_value"]
theorem scLaw : FnScope nLaw ["_law_script"] (defScope sLaw) := ⟨rfl, rfl, rfl, by decide +kernel, rfl, by decide +kernel, by decide +kernel⟩
theorem ok_law {f f3 fe fp ft fr fR fb pb CI : Addr} {fd fd3 fde fdp fdt fdr fdR fdb : FuncData} {ds : List Value} (F : Fun K "law" "law" sLaw f fd) (B : Bl mg) (R : RatC K C) (R2 : RatK K mg C) (M : RatM P w K mg base C CI f3 fd3 ds) (E1 : RatE P w K mg base C fe fde)
    (Gp : Def P w K mg base CX0 1 "_law_pool" ["_law_script", "_law_k"] (spPool K) fp fdp) (Gt : Def P w K mg base CX0 1 "_law_take" ["_law_pool_here", "_law_many"] spTake ft fdt)
    (Gr : FnG P w K mg base CX0 7 fr fdr ["_law_door", "_law_one", "_law_other"] (spRaised C)) (gr : mg "_law_raised" = some (.ref fr)) (kr : PySem.W.keepIn K (.ref fr) = true) (br : Binds K fdr ["_law_door", "_law_one", "_law_other"] [])
    (T : ReprC P w K mg base C fR fdR (spRepr C)) (Pb : PropOf K C "bottom" pb fb) (Gb : FnOk P w K mg base CX0 1 fb fdb ["self"] (getSp C "own_bottom")) (bb : Binds K fdb ["self"] []) :
    FnG P w K mg base CX0 9 f fd ["_law_script"] (spLaw K) := by
  refine Fun.okG F scLaw (fun vs H Q E h => ?_) (fun cdv A outer s H vs Q E hr h => ?_)
  · obtain ⟨a, ns, rfl, _⟩ := h
    rfl
  · obtain ⟨a, ns, rfl, hS, hn, k⟩ := h
    have hr1 : Room 1 _ := hr.r.mono (show 1 ≤ 8 by decide)
    have hr3 : Room 3 _ := hr.r.mono (show 3 ≤ 8 by decide)
    have hr4 : Room 4 _ := hr.r.mono (show 4 ≤ 8 by decide)
    have hr7 : RoomG 7 _ := hr.mono (show 7 ≤ 8 by decide)
    have hrH : RoomH 2 _ := (roomH_of hr.r).mono (show 2 ≤ 8 by decide)
    refine ⟨_, PSs.nox (pss_cons (ps_for PassesOwn.never rfl
        (pi_range1 rfl B.range (pa_cons (pe_callB (call_max2 rfl) (by rfl) B.max (by decide +kernel) (pa_cons pe_int (pa_cons (pe_callB (call_min2 rfl) (by rfl) B.min (by decide +kernel) (pa_cons (pe_callB call_len_seq (by rfl) B.len PySem.boot_len (pa_cons (pv 0) pa_nil)) (pa_cons pe_int pa_nil))) pa_nil))) pa_nil))
        (pg_name (i := 1) scLaw.nd rfl (Or.inl rfl))
        (Evl.pss_cut (ps_set (i := 2) scLaw.nd rfl (Or.inl rfl) (pe_def Gp hr1 (pa_cons (pv 0) (pa_cons (pv 1) pa_nil))))
        (Evl.pss_cut (ps_par rfl scLaw.nd (i := 3) (j := 4) rfl rfl (by decide) rfl rfl (pa_cons (pe_op op_sub (pe_def Gt hr1 (pa_cons (pv 2) (pa_cons pe_int pa_nil))) pe_int)
          (pa_cons (pe_lst (pa_cons pe_non (pa_cons pe_bl (pa_cons pe_bl (pa_cons pe_str (pa_cons (pe_tup (pa_cons pe_int pa_nil)) (pa_cons (pe_lst (pa_cons pe_int pa_nil)) (pa_cons pe_dnewK (pa_cons (pe_make M.m M.ok hr4 rfl R2.g M.b2 .nil passL (pa_cons pe_int (pa_cons pe_int pa_nil))) pa_nil))))))))) pa_nil)) (by rfl))
        (Evl.pss_cut (ps_for PassesOwn.never rfl (pi_list (pv 4)) (pg_name (i := 5) scLaw.nd rfl (Or.inr rfl))
          (pss_one (ps_if (pt_cmpR (op_neD hr.r.units)
            (pe_lc (own := [("_law_bottom", 6)]) (g := gName 6) (tt := tYes) rfl scLaw.nd (pi_list (pe_lst (pa_cons pe_int (pa_cons pe_non (pa_cons pe_bl (pa_cons pe_int pa_nil)))))) (blkOk_by (N := nLaw) (sc := defScope sLaw) (by decide +kernel)) (fun _ _ _ _ _ => pg_name (i := 6) scLaw.nd rfl (Or.inl rfl)) (fun _ _ _ _ _ => pts_nil)
              (fun _ _ _ _ _ => pe_callG Gr hr7 gr kr br (pa_cons pe_int (pa_cons (pv 5) (pa_cons (pv 6) pa_nil)))))
            (pe_op op_rep (pe_lst (pa_cons (pe_lst (pa_cons (pe_callB (call_reprD T hr.g hrH) (by rfl) B.repr (by decide +kernel) (pa_cons (pv 5) pa_nil)) (pa_cons pe_bl pa_nil))) pa_nil)) pe_int) (nomark _))
            (pss_one (ps_ret pe_bl)) pss_nil)))
        (Evl.pss_cut (ps_for PassesOwn.never rfl (pi_list (pe_op op_cat (pv 4) (pe_lst (pa_cons pe_int pa_nil)))) (pg_name (i := 6) scLaw.nd rfl (Or.inl rfl))
          (pss_one (ps_if (pt_cmpR (op_neD hr.r.units) (pe_callG Gr hr7 gr kr br (pa_cons pe_int (pa_cons (pv 3) (pa_cons (pv 6) pa_nil))))
            (pe_lst (pa_cons (pe_callB (call_reprD T hr.g hrH) (by rfl) B.repr (by decide +kernel) (pa_cons (pv 6) pa_nil)) (pa_cons pe_bl pa_nil))) (nomark _))
            (pss_one (ps_ret pe_bl)) pss_nil)))
        (Evl.pss_cut (ps_if (pt_cmpR op_notN (pe_callG Gr hr7 gr kr br (pa_cons pe_int (pa_cons (pv 3) (pa_cons (pe_op op_add pe_int (pe_def Gt hr1 (pa_cons (pv 2) (pa_cons pe_int pa_nil)))) pa_nil)))) pe_non (nomark _)) (pss_one (ps_ret pe_bl)) pss_nil)
        (Evl.pss_cut (ps_for PassesOwn.never rfl (pi_list (pe_lst (pa_cons pe_int (pa_cons (pe_make M.m M.ok hr4 rfl R2.g M.b1 M.d1 passL (pa_cons pe_int pa_nil)) (pa_cons (pe_make M.m M.ok hr4 rfl R2.g M.b2 .nil passL (pa_cons pe_int (pa_cons pe_int pa_nil)))
            (pa_cons pe_non (pa_cons pe_bl (pa_cons pe_str (pa_cons (pe_tup (pa_cons pe_int pa_nil)) (pa_cons (pe_lst (pa_cons pe_int pa_nil)) (pa_cons pe_dnewK pa_nil))))))))))) (pg_name (i := 7) scLaw.nd rfl (Or.inl rfl))
          (pss_one (ps_if (pt_cmpR (op_neD hr.r.units) (pe_callG Gr hr7 gr kr br (pa_cons pe_int (pa_cons (pv 7) (pa_cons pe_non pa_nil))))
            (pe_lst (pa_cons (pe_callB (call_reprD T hr.g hrH) (by rfl) B.repr (by decide +kernel) (pa_cons (pv 7) pa_nil)) (pa_cons pe_bl pa_nil))) (nomark _))
            (pss_one (ps_ret pe_bl)) pss_nil)))
        (pss_one (ps_for PassesOwn.never rfl (pi_list (pe_lst (pa_cons pe_bl (pa_cons pe_non (pa_cons pe_str (pa_cons (pe_tup (pa_cons pe_int (pa_cons pe_int pa_nil))) (pa_cons (pe_lst (pa_cons pe_int pa_nil)) (pa_cons pe_dnewK pa_nil)))))))) (pg_name (i := 7) scLaw.nd rfl (Or.inl rfl))
          (pss_one (ps_if (PW.pt (pw_or (pt_cmpR (op_own (C := C) E1.ok hr3 E1.h E1.hf E1.b pass0 fun _ _ => rfl) (pe_make M.m M.ok hr4 rfl R2.g M.b1 M.d1 passL (pa_cons pe_int pa_nil)) (pv 7) (nomark _))
            (pw_or (pt_not (pt_cmpR (op_neOwn (C := C) E1.ok hr4 R.ci.hm E1.ne E1.h E1.hf E1.b) (pe_make M.m M.ok hr4 rfl R2.g M.b1 M.d1 passL (pa_cons pe_int pa_nil)) (pv 7) (nomark _)))
            (pw_or1 (pt_cmpR (op_eqRefl (C := C) E1.ok hr3 E1.nb E1.h E1.hf E1.b) (pv 7) (pe_make M.m M.ok hr4 rfl R2.g M.b1 M.d1 passL (pa_cons pe_int pa_nil)) (nomark _))))))
            (pss_one (ps_ret pe_bl)) pss_nil)))))))))))
      (pss_one (ps_ret (pe_and (pe_cmpR (op_own (C := C) E1.ok hr3 E1.h E1.hf E1.b pass0 fun _ _ => rfl) (pe_make M.m M.ok hr4 rfl R2.g M.b1 M.d1 passL (pa_cons pe_int pa_nil)) pe_int (nomark _))
        (pe_one (pe_cmpR op_eq (pe_prop (by exact (pe_make M.m M.ok hr4 rfl R2.g M.b2 .nil passL (pa_cons pe_int (pa_cons (pe_un un_neg pe_int) pa_nil)))) R.ci.cl Pb Gb (hr.r.mono (show 2 ≤ 8 by decide)) bb .nil pass0 rfl) pe_int (nomark _))))))), ?_⟩
    refine ⟨_, rfl, a, _, rfl, .inl hS, _, _, rfl, _, _, rfl, _, rfl, ?_⟩
    have hJ := turns_le (List.map V.int ns).length
    refine ⟨hJ.2, (show turns (List.map V.int ns).length < 2 ^ 62 by omega), ?_⟩
    refine for_range (lo := 0) (n := (turns (List.map V.int ns).length).toNat) (fun i σ H' => Same H H' ∧ ∃ s1 s2 s3 s4 s5 s6 s7, σ = [some (.ref a), s1, s2, s3, s4, s5, s6, s7]) ⟨Same.refl H, _, _, _, _, _, _, _, rfl⟩ ?_ ?_
    · rintro i σ H1 hi ⟨sm, s1, s2, s3, s4, s5, s6, s7, rfl⟩
      rw [Int.zero_add]
      refine ⟨fun σ' H' => ∃ pl x y, σ' = [some (.ref a), some (.int i), some (.ref pl), s3, s4, s5, s6, s7] ∧ Same H1 H' ∧ H1 pl = none ∧ H' pl = some (.lst [.int x, .int y]) ∧ 0 ≤ x ∧ 0 ≤ y, ?_, ?_⟩
      · refine ⟨_, rfl, _, rfl, a, ns, i, rfl, sm.seq hS, by omega, fun p x y np hx hy => ⟨p, x, y, rfl, Same.new np, np, upd_same, hx, hy⟩⟩
      rintro _ H2 ⟨pl, x, y, rfl, e2, np, hp, hx, hy⟩
      refine ⟨fun σ' H' => ∃ od x y top xs s5 s6 s7, σ' = [some (.ref a), some (.int i), some (.ref pl), some (.int top), some (.ref od), s5, s6, s7] ∧ Same H1 H' ∧ H' pl = some (.lst [.int x, .int y]) ∧ 0 ≤ x ∧ 0 ≤ y ∧ H' od = some (.lst xs) ∧ Ats C H' odds xs ∧ -50 ≤ top ∧ top < 50, ?_, ?_⟩
      · refine ⟨_, rfl, pl, x, y, 100, rfl, hp, hx, hy, by decide, by decide, fun x' y' r hx' hy' hr0 hr1 => ?_⟩
        have e3 : Same H1 (upd H2 pl (.lst [.int x', .int y'])) := fun b o h => by
          rw [upd_ne (ne_of_none h np)]
          exact e2 b o h
        refine ⟨_, _, rfl, rfl, (by show 1 ≤ sizeLine; decide), fun q1 n1 => ⟨(by show 1 ≤ sizeLine; decide), fun q2 n2 q3 n3 x4 dx4 nx nd ne => ?_⟩⟩
        refine init_intR (C := C) (CI := CI) (n := 1) (m := 2) nx nd ne (by decide) (by decide) fun H4 s4 hq4 => ⟨rfl, ?_⟩
        refine ⟨(by show 8 ≤ sizeLine; decide), fun od no => ⟨_, _, rfl, od, x', y', r - 50, [.non, .bl true, .bl false, .str "1", .ref q1, .ref q2, .ref q3, .ref x4], s5, s6, s7, rfl, ?_⟩⟩
        have t1 := Same.new (o := .tup [.int 1]) n1
        have t2 := Same.new (o := .lst [.int 2]) n2
        have t3 := Same.new (o := .dK []) n3
        have t5 := Same.new (o := .lst [.non, .bl true, .bl false, .str "1", .ref q1, .ref q2, .ref q3, .ref x4]) no
        refine ⟨((((e3.trans t1).trans t2).trans t3).trans s4).trans t5, t5 _ _ (s4 _ _ (t3 _ _ (t2 _ _ (t1 _ _ upd_same)))), hx', hy', upd_same, ?_, by omega, by omega⟩
        refine ⟨_, _, rfl, rfl, _, _, rfl, rfl, _, _, rfl, rfl, _, _, rfl, rfl, _, _, rfl, ⟨q1, _, rfl, t5 _ _ (s4 _ _ (t3 _ _ (t2 _ _ upd_same))), _, _, rfl, rfl, rfl⟩, _, _, rfl, ⟨q2, _, rfl, t5 _ _ (s4 _ _ (t3 _ _ upd_same)), _, _, rfl, rfl, rfl⟩, _, _, rfl, ⟨q3, rfl, t5 _ _ (s4 _ _ upd_same)⟩, _, _, rfl, ⟨x4, dx4, rfl, t5 _ _ hq4⟩, rfl⟩
      rintro _ H2 ⟨od, x, y, top, xs, s5, s6, s7, rfl, e2, hp, hx, hy, ho, hA, ht0, ht1⟩
      have hl8 : xs.length = 8 := Ats.len hA
      refine ⟨fun σ' H' => Same H2 H' ∧ ∃ s5 s6 s7, σ' = [some (.ref a), some (.int i), some (.ref pl), some (.int top), some (.ref od), s5, s6, s7], ?_, ?_⟩
      · refine ⟨_, rfl, od, rfl, ⟨xs, SqL.of ho⟩, ?_⟩
        refine for_list (fun j σ' H' => Same H2 H' ∧ ∃ s5 s6 s7, σ' = [some (.ref a), some (.int i), some (.ref pl), some (.int top), some (.ref od), s5, s6, s7]) ⟨Same.refl H2, _, _, _, rfl⟩ (fun j σ' H' _ h => SqL.of (h.1 _ _ ho)) ?_ (fun _ _ h => h)
        rintro j z _ H3 hz ⟨e3, t5, t6, t7, rfl⟩
        obtain ⟨d, hd, az⟩ := Ats.get hA hz
        have az3 := At.ex e3 az
        have ok := odds_ok d (List.mem_of_getElem? hd)
        refine ⟨(by show 4 ≤ sizeLine; decide), fun L4 nL4 => ⟨L4, rfl, ⟨_, SqL.of upd_same⟩, fun Dn nDn => ?_⟩⟩
        have u4 := Same.new (o := .lst [.int 0, .non, .bl true, .int 5]) nL4
        have uD := Same.new (o := .lst []) nDn
        refine lc_list (xs := [.int 0, .non, .bl true, .int 5]) (fun m Hm => Same H3 Hm ∧ Hm L4 = some (.lst [.int 0, .non, .bl true, .int 5]) ∧ ∃ acc, acc.length = m ∧ Hm Dn = some (.lst acc) ∧ ∀ v ∈ acc, ∃ p, v = .ref p ∧ Hm p = some (.lst [.str (txt d), .bl true]) ∧ p ≠ Dn) ?_ ?_ ?_ ?_
        · exact ⟨u4.trans uD, uD _ _ upd_same, [], rfl, upd_same, fun v h => by cases h⟩
        · exact fun m Hm _ h => SqL.of h.2.1
        · rintro m y Hm hy ⟨eM, hL, acc, hac, hD, hE⟩
          have ab : Ats C Hm bot4 [.int 0, .non, .bl true, .int 5] := ⟨_, _, rfl, rfl, _, _, rfl, rfl, _, _, rfl, rfl, _, _, rfl, rfl, rfl⟩
          obtain ⟨d2, _, ay⟩ := Ats.get ab hy
          have hm4 : m < 4 := by
            have := (List.getElem?_eq_some_iff.mp hy).1
            exact this
          have tl := told0 (d2 := d2) ok.1
          refine ⟨rfl, ?_⟩
          unfold tYes
          show (if true = true then _ else _)
          refine iteT ?_
          refine ⟨_, rfl, _, rfl, 0, d, d2, z, y, rfl, At.ex eM az3, ay, fun h => absurd rfl h, fun h => ?_, fun e he => ?_, fun h => ?_, fun e he H' p s' np' hp' => ?_⟩
          · rw [tl] at h
            cases h
          · rw [tl] at he
            cases he
            exact ok.2
          · rw [tl] at h
            cases h
          · rw [tl] at he
            cases he
            have nD3 : H3 Dn = none := u4.free nDn
            refine ⟨acc, s' _ _ hD, (by rw [hac]; exact Nat.lt_trans hm4 (by decide)), ?_, ?_, acc ++ [.ref p], by rw [List.length_append, hac]; rfl, upd_same, ?_⟩
            · intro b o h
              rw [upd_ne (ne_of_none h nD3)]
              exact s' _ _ (eM _ _ h)
            · rw [upd_ne (ne_of_none upd_same nDn)]
              exact s' _ _ hL
            · intro v hv
              rcases List.mem_append.mp hv with hv | hv
              · obtain ⟨p0, rfl, h0, h1⟩ := hE v hv
                exact ⟨p0, rfl, by rw [upd_ne h1]; exact s' _ _ h0, h1⟩
              · obtain rfl := List.mem_singleton.mp hv
                have pn : p ≠ Dn := (ne_of_none hD np').symm
                exact ⟨p, rfl, by rw [upd_ne pn]; exact hp', pn⟩
        · rintro Hm ⟨eM, hL, acc, hac, hD, hE⟩
          refine ⟨_, rfl, d, z, rfl, At.ex eM az3, ok.2, (by show 2 ≤ sizeLine; decide), fun r1 n1 => ⟨(by show 1 ≤ sizeLine; decide), fun r2 n2 => ⟨r2, 4, [.ref r1], rfl, rfl, upd_same, by decide, by decide, (by show 1 * 4 ≤ sizeLine; decide), fun r3 n3 => ?_⟩⟩⟩
          have w1 := Same.new (o := .lst [.str (txt d), .bl true]) n1
          have w2 := Same.new (o := .lst [.ref r1]) n2
          have w3 := Same.new (o := .lst [.ref r1, .ref r1, .ref r1, .ref r1]) n3
          have hac4 : acc.length = 4 := hac
          refine ⟨four2 d, four2 d, ?_, ?_, odds_sh d (List.mem_of_getElem? hd), odds_sh d (List.mem_of_getElem? hd), ?_⟩
          · refine .lst (SqL.of (w3 _ _ (w2 _ _ (w1 _ _ hD)))) ?_
            rw [← hac4]
            refine dp_all fun v hv => ?_
            obtain ⟨p0, rfl, h0, _⟩ := hE v hv
            exact dp_one (w3 _ _ (w2 _ _ (w1 _ _ h0)))
          · refine .lst (xs := [.ref r1, .ref r1, .ref r1, .ref r1]) (SqL.of upd_same) ?_
            have h1 := dp_one (K := K) (w3 _ _ (w2 _ _ upd_same))
            exact .cons h1 (.cons h1 (.cons h1 (.cons h1 .nil)))
          · rw [four2_self]
            exact ⟨_, rfl, iteF ⟨((e3.trans eM).trans ((w1.trans w2).trans w3)), _, _, _, rfl⟩⟩
      rintro _ H3 ⟨e3, s5, s6, s7, rfl⟩
      refine ⟨fun σ' H' => Same H3 H' ∧ ∃ s5 s6 s7, σ' = [some (.ref a), some (.int i), some (.ref pl), some (.int top), some (.ref od), s5, s6, s7], ?_, ?_⟩
      · refine ⟨_, rfl, (by show 1 ≤ sizeLine; decide), fun q nq => ?_⟩
        have g1 := Same.new (o := .lst [.int 0]) nq
        refine ⟨od, q, xs, [.int 0], rfl, rfl, g1 _ _ (e3 _ _ ho), upd_same, (by rw [hl8]; show 8 + 1 ≤ sizeLine; decide), fun l nl => ?_⟩
        have g2 := Same.new (o := .lst (xs ++ [.int 0])) nl
        have g3 := (e3.trans g1).trans g2
        refine ⟨l, rfl, ⟨_, SqL.of upd_same⟩, ?_⟩
        have hB : Ats C (upd (upd H3 q (.lst [.int 0])) l (.lst (xs ++ [.int 0]))) bots (xs ++ [.int 0]) := Ats.app (l' := [.int 0]) (ys := [.int 0]) (by exact ⟨_, _, rfl, rfl, rfl⟩) (Ats.ex g3 hA)
        refine for_list (xs := xs ++ [.int 0]) (fun j σ' H' => Same (upd (upd H3 q (.lst [.int 0])) l (.lst (xs ++ [.int 0]))) H' ∧ ∃ s5 s6 s7, σ' = [some (.ref a), some (.int i), some (.ref pl), some (.int top), some (.ref od), s5, s6, s7]) ⟨Same.refl _, _, _, _, rfl⟩ (fun j σ' H' _ h => SqL.of (h.1 _ _ upd_same)) ?_ (fun _ _ h => ⟨(g1.trans g2).trans h.1, h.2⟩)
        rintro j z _ H4 hz ⟨e4, t5, t6, t7, rfl⟩
        obtain ⟨d, hd, az⟩ := Ats.get hB hz
        have az4 := At.ex e4 az
        have md : d ∈ bots := List.mem_of_getElem? hd
        have ok := bots_ok d md
        have tl := told0b (t := top) ok.1
        refine ⟨_, rfl, _, rfl, 0, .int top, d, .int top, z, rfl, rfl, az4, fun h => absurd rfl h, fun h => ?_, fun e he => ?_, fun h => ?_, fun e he H' p s' np' hp' => ?_⟩
        · rw [tl] at h
          cases h
        · rw [tl] at he
          cases he
          exact ok.2
        · rw [tl] at h
          cases h
        · rw [tl] at he
          cases he
          refine ⟨_, rfl, d, z, rfl, At.ex s' az4, ok.2, (by show 2 ≤ sizeLine; decide), fun r nr => ?_⟩
          have g4 := Same.new (o := .lst [.str (txt d), .bl true]) nr
          refine ⟨one2 d, one2 d, dp_one (g4 _ _ hp'), dp_one upd_same, bots_sh d md, bots_sh d md, ?_⟩
          rw [one2_self]
          exact ⟨_, rfl, iteF ⟨(e4.trans s').trans g4, _, _, _, rfl⟩⟩
      rintro _ H4 ⟨e4, s5, s6, s7, rfl⟩
      have e14 : Same H1 H4 := (e2.trans e3).trans e4
      refine ⟨fun σ' H' => Same H1 H' ∧ ∃ s5 s6 s7, σ' = [some (.ref a), some (.int i), some (.ref pl), some (.int top), some (.ref od), s5, s6, s7], ?_, ?_⟩
      · refine ⟨_, rfl, _, rfl, pl, x, y, 9, rfl, e4 _ _ (e3 _ _ hp), hx, hy, by decide, by decide, fun x' y' r hx' hy' h0 h1 => ?_⟩
        have e15 : Same H1 (upd H4 pl (.lst [.int x', .int y'])) := fun b o h => by
          rw [upd_ne (ne_of_none h np)]
          exact e14 b o h
        have tl := told0n (t := top) (m := 1 + r) (by omega)
        refine ⟨_, _, rfl, rfl, 0, .int top, .int (1 + r), _, _, rfl, rfl, rfl, fun h => absurd rfl h, fun _ m hm => ?_, fun e he => ?_, fun _ H' s' => ⟨rfl, _, rfl, if_false_of (by simp) ⟨e15.trans s', _, _, _, rfl⟩⟩, fun e he => ?_⟩
        · cases hm
          exact Nat.lt_of_le_of_lt (log2_mono (show (1 + r).natAbs ≤ 10 by omega)) (by decide)
        · rw [tl] at he
          cases he
        · rw [tl] at he
          cases he
      rintro _ H5 ⟨e5, s5, s6, s7, rfl⟩
      refine ⟨fun σ' H' => Same H1 H' ∧ ∃ s5 s6 s7, σ' = [some (.ref a), some (.int i), some (.ref pl), some (.int top), some (.ref od), s5, s6, s7], ?_, ?_⟩
      · refine fun x1 dx1 nx1 nd1 ne1 => init_intR (C := C) (CI := CI) (n := 0) (m := 1) nx1 nd1 ne1 (by decide) (by decide) fun G1 f1 hx1 => ⟨rfl, fun x2 dx2 nx2 nd2 ne2 => ?_⟩
        refine init_intR (C := C) (CI := CI) (n := 0) (m := 7) nx2 nd2 ne2 (by decide) (by decide) fun G2 f2 hx2 => ⟨rfl, (by show 1 ≤ sizeLine; decide), fun q1 n1 => ⟨(by show 1 ≤ sizeLine; decide), fun q2 n2 q3 n3 => ⟨(by show 9 ≤ sizeLine; decide), fun l nl => ?_⟩⟩⟩
        have g1 := Same.new (o := .tup [.int 1]) n1
        have g2 := Same.new (o := .lst [.int 2]) n2
        have g3 := Same.new (o := .dK []) n3
        have g4 := Same.new (o := .lst [.int 0, .ref x1, .ref x2, .non, .bl true, .str "1", .ref q1, .ref q2, .ref q3]) nl
        refine ⟨l, rfl, ⟨_, SqL.of upd_same⟩, ?_⟩
        have hl : upd (upd (upd (upd G2 q1 (.tup [.int 1])) q2 (.lst [.int 2])) q3 (.dK [])) l (.lst [.int 0, .ref x1, .ref x2, .non, .bl true, .str "1", .ref q1, .ref q2, .ref q3]) l = some (.lst [.int 0, .ref x1, .ref x2, .non, .bl true, .str "1", .ref q1, .ref q2, .ref q3]) := upd_same
        have hB : Ats C (upd (upd (upd (upd G2 q1 (.tup [.int 1])) q2 (.lst [.int 2])) q3 (.dK [])) l (.lst [.int 0, .ref x1, .ref x2, .non, .bl true, .str "1", .ref q1, .ref q2, .ref q3])) vals4 [.int 0, .ref x1, .ref x2, .non, .bl true, .str "1", .ref q1, .ref q2, .ref q3] :=
          ⟨_, _, rfl, rfl, _, _, rfl, ⟨x1, dx1, rfl, g4 _ _ (g3 _ _ (g2 _ _ (g1 _ _ (f2 _ _ hx1))))⟩, _, _, rfl, ⟨x2, dx2, rfl, g4 _ _ (g3 _ _ (g2 _ _ (g1 _ _ hx2)))⟩, _, _, rfl, rfl, _, _, rfl, rfl, _, _, rfl, rfl,
            _, _, rfl, ⟨q1, _, rfl, g4 _ _ (g3 _ _ (g2 _ _ upd_same)), _, _, rfl, rfl, rfl⟩, _, _, rfl, ⟨q2, _, rfl, g4 _ _ (g3 _ _ upd_same), _, _, rfl, rfl, rfl⟩, _, _, rfl, ⟨q3, rfl, g4 _ _ upd_same⟩, rfl⟩
        have eB := ((((e5.trans f1).trans f2).trans g1).trans g2).trans (g3.trans g4)
        revert hl hB eB
        generalize upd (upd (upd (upd G2 q1 (.tup [.int 1])) q2 (.lst [.int 2])) q3 (.dK [])) l (.lst [.int 0, .ref x1, .ref x2, .non, .bl true, .str "1", .ref q1, .ref q2, .ref q3]) = HB
        intro hl hB eB
        refine for_list (fun j σ' H' => Same HB H' ∧ ∃ s5 s6 s7, σ' = [some (.ref a), some (.int i), some (.ref pl), some (.int top), some (.ref od), s5, s6, s7]) ⟨Same.refl _, _, _, _, rfl⟩ (fun j σ' H' _ h => SqL.of (h.1 _ _ hl)) ?_ (fun _ _ h => ⟨eB.trans h.1, h.2⟩)
        rintro j z _ H6 hz ⟨e6, t5, t6, t7, rfl⟩
        obtain ⟨d, hd, az⟩ := Ats.get hB hz
        have az6 := At.ex e6 az
        have md : d ∈ vals4 := List.mem_of_getElem? hd
        have ok := vals4_ok d md
        have tl := told1 (d2 := .non) ok.1
        refine ⟨_, rfl, 1, d, .non, z, .non, rfl, az6, rfl, fun _ => ok.1, fun h => ?_, fun e he => ?_, fun h => ?_, fun e he H' p s' np' hp' => ?_⟩
        · rw [tl] at h
          cases h
        · rw [tl] at he
          cases he
          exact ok.2
        · rw [tl] at h
          cases h
        · rw [tl] at he
          cases he
          refine ⟨_, rfl, d, z, rfl, At.ex s' az6, ok.2, (by show 2 ≤ sizeLine; decide), fun r nr => ?_⟩
          have g4 := Same.new (o := .lst [.str (txt d), .bl true]) nr
          refine ⟨one2 d, one2 d, dp_one (g4 _ _ hp'), dp_one upd_same, vals4_sh d md, vals4_sh d md, ?_⟩
          rw [one2_self]
          exact ⟨_, rfl, iteF ⟨(e6.trans s').trans g4, _, _, _, rfl⟩⟩
      rintro _ H6 ⟨e6, s5, s6, s7, rfl⟩
      refine ⟨(by show 2 ≤ sizeLine; decide), fun q1 n1 => ⟨(by show 1 ≤ sizeLine; decide), fun q2 n2 q3 n3 => ⟨(by show 6 ≤ sizeLine; decide), fun l nl => ?_⟩⟩⟩
      have g1 := Same.new (o := .tup [.int 1, .int 1]) n1
      have g2 := Same.new (o := .lst [.int 1]) n2
      have g3 := Same.new (o := .dK []) n3
      have g4 := Same.new (o := .lst [.bl true, .non, .str "1", .ref q1, .ref q2, .ref q3]) nl
      refine ⟨l, rfl, ⟨_, SqL.of upd_same⟩, ?_⟩
      have hl : upd (upd (upd (upd H6 q1 (.tup [.int 1, .int 1])) q2 (.lst [.int 1])) q3 (.dK [])) l (.lst [.bl true, .non, .str "1", .ref q1, .ref q2, .ref q3]) l = some (.lst [.bl true, .non, .str "1", .ref q1, .ref q2, .ref q3]) := upd_same
      have hB : Ats C (upd (upd (upd (upd H6 q1 (.tup [.int 1, .int 1])) q2 (.lst [.int 1])) q3 (.dK [])) l (.lst [.bl true, .non, .str "1", .ref q1, .ref q2, .ref q3])) vals5 [.bl true, .non, .str "1", .ref q1, .ref q2, .ref q3] :=
        ⟨_, _, rfl, rfl, _, _, rfl, rfl, _, _, rfl, rfl, _, _, rfl, ⟨q1, _, rfl, g4 _ _ (g3 _ _ (g2 _ _ upd_same)), _, _, rfl, rfl, _, _, rfl, rfl, rfl⟩, _, _, rfl, ⟨q2, _, rfl, g4 _ _ (g3 _ _ upd_same), _, _, rfl, rfl, rfl⟩, _, _, rfl, ⟨q3, rfl, g4 _ _ upd_same⟩, rfl⟩
      have eB := (((e6.trans g1).trans g2).trans g3).trans g4
      revert hl hB eB
      generalize upd (upd (upd (upd H6 q1 (.tup [.int 1, .int 1])) q2 (.lst [.int 1])) q3 (.dK [])) l (.lst [.bl true, .non, .str "1", .ref q1, .ref q2, .ref q3]) = HB
      intro hl hB eB
      refine for_list (fun j σ' H' => Same HB H' ∧ ∃ s5 s6 s7, σ' = [some (.ref a), some (.int i), some (.ref pl), some (.int top), some (.ref od), s5, s6, s7]) ⟨Same.refl _, _, _, _, rfl⟩ (fun j σ' H' _ h => SqL.of (h.1 _ _ hl)) ?_ (fun _ _ h => ⟨sm.trans (eB.trans h.1), _, _, _, _, _, _, _, h.2.choose_spec.choose_spec.choose_spec⟩)
      rintro j z _ H7 hz ⟨e7, t5, t6, t7, rfl⟩
      obtain ⟨d, hd, az⟩ := Ats.get hB hz
      have az7 := At.ex e7 az
      have md : d ∈ vals5 := List.mem_of_getElem? hd
      have ok := vals5_ok d md
      have nr : ∀ n m, d ≠ .rat n m := vals5_nr d md
      refine fun x1 dx1 nx1 nd1 ne1 => init_intR (C := C) (CI := CI) (n := 1) (m := 1) nx1 nd1 ne1 (by decide) (by decide) fun G1 f1 hx1 => ⟨rfl, _, rfl, x1, dx1, _, tyD C d, rfl, hx1, ty_at R.ci (At.ex f1 az7), nf_D K C d, x1, dx1, _, _, d, z, rfl, hx1, At.ex f1 az7, fun G1' f1' => ⟨_, rfl, if_false_of ok ?_⟩⟩
      have b1 := e7.trans (f1.trans f1')
      refine fun x2 dx2 nx2 nd2 ne2 => init_intR (C := C) (CI := CI) (n := 1) (m := 1) nx2 nd2 ne2 (by decide) (by decide) fun G2 f2 hx2 => ⟨rfl, _, rfl, x2, dx2, _, tyD C d, rfl, hx2, ty_at R.ci (At.ex (b1.trans f2) az), nf_D K C d, x2, dx2, _, _, d, z, rfl, hx2, At.ex (b1.trans f2) az, fun G2' f2' => ⟨_, rfl, _, rfl, if_false_of (by rw [ok]; rfl) ?_⟩⟩
      have b2 := b1.trans (f2.trans f2')
      refine ⟨_, rfl, fun x3 dx3 nx3 nd3 ne3 => init_intR (C := C) (CI := CI) (n := 1) (m := 1) nx3 nd3 ne3 (by decide) (by decide) fun G3 f3 hx3 => ⟨rfl, d, x3, dx3, _, At.ex (b2.trans f3) az, nr, rfl, hx3, x3, dx3, _, _, d, z, rfl, hx3, At.ex (b2.trans f3) az, fun G3' f3' => ⟨_, rfl, if_false_of ok ?_⟩⟩⟩
      exact ⟨b2.trans (f3.trans f3'), _, _, _, rfl⟩
    · rintro σ H1 ⟨sm, _⟩
      refine fun x1 dx1 nx1 nd1 ne1 => init_intR (C := C) (CI := CI) (n := 1) (m := 1) nx1 nd1 ne1 (by decide) (by decide) fun G1 f1 hx1 => ⟨rfl, x1, dx1, _, .type "int", rfl, hx1, .base (.int 1), nf_int, x1, dx1, _, _, .int 1, .int 1, rfl, hx1, rfl, fun G1' f1' => ⟨_, rfl, if_true_of one_one ?_⟩⟩
      refine ⟨5, rfl, fun x2 dx2 nx2 nd2 ne2 => init_intR (C := C) (CI := CI) (n := 0) (m := -5) nx2 nd2 ne2 (by decide) (by decide) fun G2 f2 hx2 => ⟨rfl, x2, dx2, _, rfl, hx2, x2, dx2, _, _, rfl, hx2, rf_bot _ _, rfl, ?_⟩⟩
      have e : (decide (V.int (rD 0 (-5)) = V.int 1)) = true := by
        rw [zero_bot]
        exact decide_eq_true rfl
      show Q (.bl (decide (V.int (rD 0 (-5)) = V.int 1))) G2
      rw [e]
      exact k _
end
end Fu

namespace Fu
open PySem L2
open PyProof.Rows hiding St
open L2H (RoomH roomH_of)
abbrev sBot : Stmt := inClass (topS 7) 2
theorem kit_rt {K : PySem.W.Frag} {C : Addr} {T : String} {b : Bool} (h : PySem.W.subIn K (.ref C) (.type T) = some b) (m : PySem.W.kitMeta T = true) : PySem.W.kitOne K (.ref C) (.type T) = some b := by
  have e : PySem.W.kitOne K (.ref C) (.type T) = (if PySem.W.kitMeta T = true then PySem.W.subIn K (.ref C) (.type T) else none) := rfl
  rw [e, if_pos m, h]
theorem kit_tr {K : PySem.W.Frag} {C : Addr} {T : String} (h : PySem.W.subIn K (.type T) (.ref C) = some false) (h2 : PySem.W.isClsIn K C = true) (h3 : PySem.W.typeIn K (.ref C) = some (.type "type")) : PySem.W.kitOne K (.type T) (.ref C) = some false := by
  have e2 : ((PySem.W.clsIn K C).isSome && PySem.W.typeIn K (.ref C) == some (.type "type")) = true := by
    have h2' : (PySem.W.clsIn K C).isSome = true := h2
    rw [h2', h3] <;> rfl
  have e : PySem.W.kitOne K (.type T) (.ref C) = (if ((PySem.W.clsIn K C).isSome && PySem.W.typeIn K (.ref C) == some (.type "type")) = true then PySem.W.subIn K (.type T) (.ref C) else none) := rfl
  rw [e, if_pos e2, h]
theorem exm_self {K : PySem.W.Frag} {S : Addr} (h1 : PySem.W.subIn K (.ref S) (.type "BaseException") = some true) (h2 : PySem.W.isClsIn K S = true) (h3 : PySem.W.typeIn K (.ref S) = some (.type "type")) (h4 : PySem.W.subIn K (.ref S) (.ref S) = some true) :
    PySem.W.exmOne K (.ref S) (.ref S) = some true := by
  have e1 : (PySem.W.subIn K (.ref S) (.type "BaseException") == some true) = true := by rw [h1] <;> rfl
  have e2 : ((PySem.W.clsIn K S).isSome && PySem.W.typeIn K (.ref S) == some (.type "type")) = true := by
    have h2' : (PySem.W.clsIn K S).isSome = true := h2
    rw [h2', h3] <;> rfl
  show (if (PySem.W.subIn K (.ref S) (.type "BaseException") == some true) = true then (if ((PySem.W.clsIn K S).isSome && PySem.W.typeIn K (.ref S) == some (.type "type")) = true then PySem.W.subIn K (.ref S) (.ref S) else none) else none) = some true
  rw [if_pos e1, if_pos e2]
  exact h4
theorem all_mk {l : PySem.W.OpenLaw} {w : World} {K : PySem.W.Frag} {h : Heap} {mg : Str → Option Value} {fa : Addr} (X : K.In h) (G : h.Ns mainGlobals mg) (hfa : mg "law" = some (.ref fa))
    {C CI fii fgcd fisn fpar fpool ftake frai flaw fX feq fov frp finit Tinit pbot fbot : Addr} {odii anii odgcd angcd odisn anisn odpar anpar odpool anpool odtake antake odrai anrai odlaw anlaw odX anX odeq aneq odov anov odrp anrp odinit aninit oUinit odbot anbot : Option Addr} {slii slgcd slisn slpar slpool sltake slrai sllaw slX sleq slov slrp slinit sTinit slbot : Array (Option Value)} {ocii kVii dcii pmii cdii ctii ocgcd kVgcd dcgcd pmgcd cdgcd ctgcd ocisn kVisn dcisn pmisn cdisn ctisn ocpar kVpar dcpar pmpar cdpar ctpar ocpool kVpool dcpool pmpool cdpool ctpool octake kVtake dctake pmtake cdtake cttake ocrai kVrai dcrai pmrai cdrai ctrai oclaw kVlaw dclaw pmlaw cdlaw ctlaw ocX kVX dcX pmX cdX ctX oceq kVeq dceq pmeq cdeq cteq ocov kVov dcov pmov cdov ctov ocrp kVrp dcrp pmrp cdrp ctrp ocinit kVinit dcinit pminit cdinit ctinit oTinit ocbot kVbot dcbot pmbot cdbot ctbot : Value}
    {nTinit : Nat} {tkinit : Tok}
    {rsbot : List Value}
    {CN : Addr} {nm q : Str} {N : Addr} {bs : List Value} {sn : List Str} {sub : List Value} {ab : Bool} {col : Option Bool} {dd : Option Addr} {m0 m1 m2 m3 m5 : Option Value}
    (zaC : PySem.W.nsIn K mainGlobals "Ratio" = some (some (.ref C)))
    (zaCI : PySem.W.nsIn K mainGlobals "InvalidNumber" = some (some (.ref CI)))
    (zaii : PySem.W.nsIn K mainGlobals "is_integer" = some (some (.ref fii)))
    (zlii : K.lookup fii = some ⟨ocii, odii, .func (PySem.W.fnOf "is_integer" "is_integer" (defArgs sIsInt) (defBody sIsInt) (defScope sIsInt) .none kVii dcii pmii anii cdii ctii), slii⟩)
    (zcii : PySem.W.codeIn K cdii "is_integer" = true)
    (zkii : PySem.W.keepIn K (.ref fii) = true)
    (zagcd : PySem.W.nsIn K mainGlobals "common_divisor" = some (some (.ref fgcd)))
    (zlgcd : K.lookup fgcd = some ⟨ocgcd, odgcd, .func (PySem.W.fnOf "common_divisor" "common_divisor" (defArgs sGcd) (defBody sGcd) (defScope sGcd) .none kVgcd dcgcd pmgcd angcd cdgcd ctgcd), slgcd⟩)
    (zcgcd : PySem.W.codeIn K cdgcd "common_divisor" = true)
    (zkgcd : PySem.W.keepIn K (.ref fgcd) = true)
    (zaisn : PySem.W.nsIn K mainGlobals "is_number" = some (some (.ref fisn)))
    (zlisn : K.lookup fisn = some ⟨ocisn, odisn, .func (PySem.W.fnOf "is_number" "is_number" (defArgs sIsNum) (defBody sIsNum) (defScope sIsNum) .none kVisn dcisn pmisn anisn cdisn ctisn), slisn⟩)
    (zcisn : PySem.W.codeIn K cdisn "is_number" = true)
    (zkisn : PySem.W.keepIn K (.ref fisn) = true)
    (zapar : PySem.W.nsIn K mainGlobals "parts_of" = some (some (.ref fpar)))
    (zlpar : K.lookup fpar = some ⟨ocpar, odpar, .func (PySem.W.fnOf "parts_of" "parts_of" (defArgs sParts) (defBody sParts) (defScope sParts) .none kVpar dcpar pmpar anpar cdpar ctpar), slpar⟩)
    (zcpar : PySem.W.codeIn K cdpar "parts_of" = true)
    (zkpar : PySem.W.keepIn K (.ref fpar) = true)
    (zapool : PySem.W.nsIn K mainGlobals "_law_pool" = some (some (.ref fpool)))
    (zlpool : K.lookup fpool = some ⟨ocpool, odpool, .func (PySem.W.fnOf "_law_pool" "_law_pool" (defArgs sPool) (defBody sPool) (defScope sPool) .none kVpool dcpool pmpool anpool cdpool ctpool), slpool⟩)
    (zcpool : PySem.W.codeIn K cdpool "_law_pool" = true)
    (zkpool : PySem.W.keepIn K (.ref fpool) = true)
    (zatake : PySem.W.nsIn K mainGlobals "_law_take" = some (some (.ref ftake)))
    (zltake : K.lookup ftake = some ⟨octake, odtake, .func (PySem.W.fnOf "_law_take" "_law_take" (defArgs sTake) (defBody sTake) (defScope sTake) .none kVtake dctake pmtake antake cdtake cttake), sltake⟩)
    (zctake : PySem.W.codeIn K cdtake "_law_take" = true)
    (zktake : PySem.W.keepIn K (.ref ftake) = true)
    (zarai : PySem.W.nsIn K mainGlobals "_law_raised" = some (some (.ref frai)))
    (zlrai : K.lookup frai = some ⟨ocrai, odrai, .func (PySem.W.fnOf "_law_raised" "_law_raised" (defArgs sRaised) (defBody sRaised) (defScope sRaised) .none kVrai dcrai pmrai anrai cdrai ctrai), slrai⟩)
    (zcrai : PySem.W.codeIn K cdrai "_law_raised" = true)
    (zkrai : PySem.W.keepIn K (.ref frai) = true)
    (zalaw : PySem.W.nsIn K mainGlobals "law" = some (some (.ref flaw)))
    (zllaw : K.lookup flaw = some ⟨oclaw, odlaw, .func (PySem.W.fnOf "law" "law" (defArgs sLaw) (defBody sLaw) (defScope sLaw) .none kVlaw dclaw pmlaw anlaw cdlaw ctlaw), sllaw⟩)
    (zclaw : PySem.W.codeIn K cdlaw "law" = true)
    (zklaw : PySem.W.keepIn K (.ref flaw) = true)
    (zaX : PySem.W.findIn K (.ref CI) "__init__" = some (some (.ref fX)))
    (ziX : PySem.W.isFn K (.ref fX) = true)
    (zlX : K.lookup fX = some ⟨ocX, odX, .func (PySem.W.fnOf "__init__" "InvalidNumber.__init__" (defArgs sInvNum) (defBody sInvNum) (defScope sInvNum) .none kVX dcX pmX anX cdX ctX), slX⟩)
    (zcX : PySem.W.codeIn K cdX "InvalidNumber.__init__" = true)
    (zkX : PySem.W.keepIn K (.ref fX) = true)
    (zaeq : PySem.W.findIn K (.ref C) "__eq__" = some (some (.ref feq)))
    (zieq : PySem.W.isFn K (.ref feq) = true)
    (zleq : K.lookup feq = some ⟨oceq, odeq, .func (PySem.W.fnOf "__eq__" "Ratio.__eq__" (defArgs sEq) (defBody sEq) (defScope sEq) .none kVeq dceq pmeq aneq cdeq cteq), sleq⟩)
    (zceq : PySem.W.codeIn K cdeq "Ratio.__eq__" = true)
    (zkeq : PySem.W.keepIn K (.ref feq) = true)
    (zaov : PySem.W.findIn K (.ref C) "over" = some (some (.ref fov)))
    (ziov : PySem.W.isFn K (.ref fov) = true)
    (zlov : K.lookup fov = some ⟨ocov, odov, .func (PySem.W.fnOf "over" "Ratio.over" (defArgs sOver) (defBody sOver) (defScope sOver) .none kVov dcov pmov anov cdov ctov), slov⟩)
    (zcov : PySem.W.codeIn K cdov "Ratio.over" = true)
    (zkov : PySem.W.keepIn K (.ref fov) = true)
    (zarp : PySem.W.findIn K (.ref C) "__repr__" = some (some (.ref frp)))
    (zirp : PySem.W.isFn K (.ref frp) = true)
    (zlrp : K.lookup frp = some ⟨ocrp, odrp, .func (PySem.W.fnOf "__repr__" "Ratio.__repr__" (defArgs sRepr) (defBody sRepr) (defScope sRepr) .none kVrp dcrp pmrp anrp cdrp ctrp), slrp⟩)
    (zcrp : PySem.W.codeIn K cdrp "Ratio.__repr__" = true)
    (zkrp : PySem.W.keepIn K (.ref frp) = true)
    (zainit : PySem.W.findIn K (.ref C) "__init__" = some (some (.ref finit)))
    (ziinit : PySem.W.isFn K (.ref finit) = true)
    (zlinit : K.lookup finit = some ⟨ocinit, odinit, .func (PySem.W.fnOf "__init__" "Ratio.__init__" (defArgs sInit) (defBody sInit) (defScope sInit) (.ref Tinit) kVinit dcinit pminit aninit cdinit ctinit), slinit⟩)
    (zcinit : PySem.W.codeIn K cdinit "Ratio.__init__" = true)
    (zkinit : PySem.W.keepIn K (.ref finit) = true)
    (zdinit : K.lookup Tinit = some ⟨oTinit, oUinit, .seq #[.int 1 tkinit] nTinit, sTinit⟩)
    (zabot : PySem.W.findIn K (.ref C) "bottom" = some (some (.ref pbot)))
    (zgbot : PySem.W.specialIn K (.ref pbot) "__get__" = some (some (.builtin "property.__get__")))
    (ztbot : PySem.W.takesIn K (.ref pbot) = some true)
    (zrbot : PySem.W.recIn K pbot "property" = some (.ref fbot :: rsbot))
    (zlbot : K.lookup fbot = some ⟨ocbot, odbot, .func (PySem.W.fnOf "bottom" "Ratio.bottom" (defArgs sBot) (defBody sBot) (defScope sBot) .none kVbot dcbot pmbot anbot cdbot ctbot), slbot⟩)
    (zcbot : PySem.W.codeIn K cdbot "Ratio.bottom" = true)
    (zkbot : PySem.W.keepIn K (.ref fbot) = true)
    (znisinstance : PySem.W.nsIn K mainGlobals "isinstance" = some none)
    (znint : PySem.W.nsIn K mainGlobals "int" = some none)
    (znbool : PySem.W.nsIn K mainGlobals "bool" = some none)
    (znabs : PySem.W.nsIn K mainGlobals "abs" = some none)
    (znlen : PySem.W.nsIn K mainGlobals "len" = some none)
    (znrange : PySem.W.nsIn K mainGlobals "range" = some none)
    (znmax : PySem.W.nsIn K mainGlobals "max" = some none)
    (znmin : PySem.W.nsIn K mainGlobals "min" = some none)
    (znrepr : PySem.W.nsIn K mainGlobals "repr" = some none)
    (znstr : PySem.W.nsIn K mainGlobals "str" = some none)
    (znValueError : PySem.W.nsIn K mainGlobals "ValueError" = some none)
    (zxL : K.lookup CI = some (excClassObj nm q CI N bs [.ref CN, .type "ValueError", .type "Exception", .type "BaseException", .type "object"] true sn sub ab col dd m0 m1 m2 m3 m5 "ValueError.__new__"))
    (zeSa : PySem.W.findIn K (.ref CI) "__setattr__" = some (some (.builtin "object.__setattr__")))
    (zeGa : PySem.W.findIn K (.ref CI) "__getattribute__" = some (some (.builtin "BaseException.__getattribute__")))
    (zeGg : PySem.W.findIn K (.ref CI) "__getattr__" = some none)
    (zeV : PySem.W.findIn K (.ref CI) "value" = some none)
    (zeT1 : PySem.W.typeIn K (.ref fX) = some (.type "function"))
    (zeK : PySem.W.keepIn K (.ref CI) = true)
    (zeE : PySem.W.subIn K (.ref CI) (.type "BaseException") = some true)
    (zeVE : PySem.W.subIn K (.ref CI) (.type "ValueError") = some true)
    (zeT : PySem.W.typeIn K (.ref CI) = some (.type "type"))
    (zeH : PySem.W.hasDictIn K CI = true)
    (zeI : PySem.W.isClsIn K CI = true)
    (zeS : PySem.W.subIn K (.ref CI) (.ref CI) = some true)
    (zeC : PySem.W.findIn K (.ref CI) "__class__" = some (some (.builtin "object.__class__")))
    (zeM : PySem.W.mroIn K CI (.type "object") = some true)
    (zcPg : PySem.W.plainGet K C Str.empty = true)
    (zcHd : PySem.W.hasDictIn K C = true)
    (zcPo : PySem.W.plainOver K C = true)
    (zcSa : PySem.W.findIn K (.ref C) "__setattr__" = some (some (.builtin "object.__setattr__")))
    (zcMk : PySem.W.makesIn K C = true)
    (zcKc : PySem.W.keepIn K (.ref C) = true)
    (zcCl : PySem.W.findIn K (.ref C) "__class__" = some (some (.builtin "object.__class__")))
    (zcSp : PySem.W.specialIn K (.builtin "object.__class__") "__get__" = some (some (.builtin "getset_descriptor.__get__")))
    (zcTk : PySem.W.takesIn K (.builtin "object.__class__") = some true)
    (zcMo : PySem.W.mroIn K C (.type "object") = some true)
    (zcI : PySem.W.isClsIn K C = true)
    (zcT : PySem.W.typeIn K (.ref C) = some (.type "type"))
    (zcInt : PySem.W.subIn K (.ref C) (.type "int") = some false)
    (zcBool : PySem.W.subIn K (.ref C) (.type "bool") = some false)
    (zcTop : PySem.W.findIn K (.ref C) "own_top" = some none)
    (zcBot : PySem.W.findIn K (.ref C) "own_bottom" = some none)
    (zcNe : PySem.W.findIn K (.ref C) "__ne__" = some (some (.builtin "object.__ne__")))
    (zmNoneType : PySem.W.mroIn K C (.type "NoneType") = some false)
    (zmbool : PySem.W.mroIn K C (.type "bool") = some false)
    (zmint : PySem.W.mroIn K C (.type "int") = some false)
    (zmstr : PySem.W.mroIn K C (.type "str") = some false)
    (zmlist : PySem.W.mroIn K C (.type "list") = some false)
    (zmtuple : PySem.W.mroIn K C (.type "tuple") = some false)
    (zmdict : PySem.W.mroIn K C (.type "dict") = some false)
    : ∃ fd : FuncData, (∀ (s : Shared) (v : Value), BindsTo s fd ⟨[v], []⟩ [("_law_script", v)]) ∧ ∀ base : Heap, K.In base → base.Ns mainGlobals mg → FnG l.prog w K mg base CX0 9 fa fd ["_law_script"] (spLaw K) := by
  have e := hfa.symm.trans (PySem.W.mg_of X G zalaw)
  cases e
  have cl : Cls K C := ⟨zcPg, zcHd, zcPo, zcSa⟩
  have ci : ClsI K C := ⟨cl, zcCl, zcSp, zcTk, zcMo⟩
  have R : RatC K C := ⟨ci, kit_rt zcInt (by decide +kernel), kit_rt zcBool (by decide +kernel), zcTop, zcBot⟩
  have R2 : RatK K mg C := ⟨PySem.W.mg_of X G zaC, fun T hT => kit_tr (by simp only [List.mem_cons, List.not_mem_nil, or_false] at hT; rcases hT with h | h | h | h | h | h | h <;> (subst h; with_unfolding_all rfl)) zcI zcT⟩
  have NB : NoB K C := ⟨fun T hT => by simp only [List.mem_cons, List.not_mem_nil, or_false] at hT; rcases hT with h | h | h | h | h | h | h <;> (subst h; assumption)⟩
  have nn : ∀ x : Str, PySem.W.nsIn K mainGlobals x = some none → mg x = none := fun x h => PySem.W.mg_none_of X G h
  have B : Bt mg := ⟨nn _ znisinstance, nn _ znint, nn _ znbool, nn _ znabs⟩
  have Bu1 : Bu mg := ⟨nn _ znlen, nn _ znabs, nn _ znint⟩
  have Bl1 : Bl mg := ⟨nn _ znrange, nn _ znmax, nn _ znmin, nn _ znlen, nn _ znrepr⟩
  have oex : OexC K CI := ⟨⟨nm, q, N, bs, _, sn, sub, ab, col, dd, m0, m1, m2, m3, m5, zxL, rfl⟩, zeSa, zeE, zeT, zeK⟩
  have EC : ErrC K mg "InvalidNumber" "value" CI fX := ⟨oex, PySem.W.mg_of X G zaCI, zaX, zeT1, zeV, ⟨zeGa, zeGg, zeE, zeH⟩⟩
  have I2 : InX K CI := ⟨⟨zeGa, zeGg, zeE, zeH, zeC, zcSp, zcTk, zeM⟩, exm_self zeE zeI zeT zeS, kit_rt zeVE (by decide +kernel)⟩
  have FX := fun_mk (st := sInvNum) zlX zcX zkX
  have bX := FX.binds (ps := ["self", "value"]) fun _ _ _ _ _ _ us hl => match us, hl with | [_, _], _ => rfl
  have Fii := fun_mk (st := sIsInt) zlii zcii zkii
  have bii := Fii.binds (ps := ["value"]) fun _ _ _ _ _ _ us hl => match us, hl with | [_], _ => rfl
  have Fgcd := fun_mk (st := sGcd) zlgcd zcgcd zkgcd
  have bgcd := Fgcd.binds (ps := ["one", "other"]) fun _ _ _ _ _ _ us hl => match us, hl with | [_, _], _ => rfl
  have Fisn := fun_mk (st := sIsNum) zlisn zcisn zkisn
  have bisn := Fisn.binds (ps := ["value"]) fun _ _ _ _ _ _ us hl => match us, hl with | [_], _ => rfl
  have Fpar := fun_mk (st := sParts) zlpar zcpar zkpar
  have bpar := Fpar.binds (ps := ["number"]) fun _ _ _ _ _ _ us hl => match us, hl with | [_], _ => rfl
  have Feq := fun_mk (st := sEq) zleq zceq zkeq
  have beq := Feq.binds (ps := ["self", "other"]) fun _ _ _ _ _ _ us hl => match us, hl with | [_, _], _ => rfl
  have Fov := fun_mk (st := sOver) zlov zcov zkov
  have bov := Fov.binds (ps := ["self", "other"]) fun _ _ _ _ _ _ us hl => match us, hl with | [_, _], _ => rfl
  have Frp := fun_mk (st := sRepr) zlrp zcrp zkrp
  have brp := Frp.binds (ps := ["self"]) fun _ _ _ _ _ _ us hl => match us, hl with | [_], _ => rfl
  have Fpool := fun_mk (st := sPool) zlpool zcpool zkpool
  have bpool := Fpool.binds (ps := ["_law_script", "_law_k"]) fun _ _ _ _ _ _ us hl => match us, hl with | [_, _], _ => rfl
  have Ftake := fun_mk (st := sTake) zltake zctake zktake
  have btake := Ftake.binds (ps := ["_law_pool_here", "_law_many"]) fun _ _ _ _ _ _ us hl => match us, hl with | [_, _], _ => rfl
  have Frai := fun_mk (st := sRaised) zlrai zcrai zkrai
  have brai := Frai.binds (ps := ["_law_door", "_law_one", "_law_other"]) fun _ _ _ _ _ _ us hl => match us, hl with | [_, _, _], _ => rfl
  have Fbot := fun_mk (st := sBot) zlbot zcbot zkbot
  have bbot := Fbot.binds (ps := ["self"]) fun _ _ _ _ _ _ us hl => match us, hl with | [_], _ => rfl
  have Flaw := fun_mk (st := sLaw) zllaw zclaw zklaw
  have FI : FunD K "__init__" "Ratio.__init__" (defArgs sInit) (defBody sInit) (defScope sInit) [.int 1] [] finit _ := ⟨⟨_, _, _, _, _, _, _, _, _, _, rfl, zlinit, zcinit, .inr ⟨by simp, Tinit, _, [.int 1 tkinit], nTinit, rfl, zdinit, rfl, .cons ⟨tkinit, rfl⟩ .nil⟩, .inl rfl⟩, zkinit⟩
  obtain ⟨d0, hd0, bi2⟩ := FI.binds1 (ps := ["self", "top", "bottom"]) 3 1 (by simp) rfl fun T kV doc pm an cdv ct us its hu hi => by
    match us, hu, its, hi with
    | [_, _, _], _, [_], _ => exact ⟨_, rfl, rfl⟩
  cases hd0
  obtain ⟨ds, hds, bi1⟩ := FI.binds1 (ps := ["self", "top", "bottom"]) 2 0 (by simp) rfl fun T kV doc pm an cdv ct us its hu hi => by
    match us, hu, its, hi with
    | [_, _], _, [_], _ => exact ⟨_, rfl, rfl⟩
  refine ⟨PySem.W.fnOf "law" "law" (defArgs sLaw) (defBody sLaw) (defScope sLaw) .none kVlaw dclaw pmlaw anlaw cdlaw ctlaw, fun s v => .of_eq rfl, fun base _ _ => ?_⟩
  · have okX : FnOk l.prog w K mg base CX0 1 fX _ ["self", "value"] (spX CI "value") := ok_xinit FX EC rfl ⟨rfl, rfl, rfl, by decide +kernel, rfl, by decide +kernel, by decide +kernel⟩ (fun env => rfl) (.inl rfl) (.inl rfl) (by decide) (by decide)
    have I : IN l.prog w K mg base CI fX _ := ⟨EC, okX, bX⟩
    have Gii : Def l.prog w K mg base CX0 1 "is_integer" ["value"] (spIsInt C) fii _ := ⟨ok_isInt Fii B R, PySem.W.mg_of X G zaii, zkii, bii⟩
    have Ggcd : Def l.prog w K mg base CX0 1 "common_divisor" ["one", "other"] spGcd fgcd _ := ⟨ok_gcd Fgcd B, PySem.W.mg_of X G zagcd, zkgcd, bgcd⟩
    have Gisn : Def l.prog w K mg base CX0 2 "is_number" ["value"] (spIsNum C) fisn _ := ⟨ok_isNum Fisn B R R2 Gii, PySem.W.mg_of X G zaisn, zkisn, bisn⟩
    have Gpar : Def l.prog w K mg base CX0 1 "parts_of" ["number"] (spParts C) fpar _ := ⟨ok_parts Fpar B R R2, PySem.W.mg_of X G zapar, zkpar, bpar⟩
    have M : RatM l.prog w K mg base C CI finit _ ds := ⟨⟨zcMk, zainit, ziinit, zcKc⟩, ok_init FI B R I Gii Ggcd, bi2, bi1, hds⟩
    have Geq : FnOk l.prog w K mg base CX0 3 feq _ ["self", "other"] (spEqR C) := ok_eq Feq R Gisn Gpar
    have E1 : RatE l.prog w K mg base C feq _ := ⟨Geq, beq, zaeq, zieq, zcNe, NB⟩
    have Gov := ok_over (P := l.prog) (w := w) (base := base) Fov R R2 I Gisn Gpar M Geq beq zaeq zieq
    have T : ReprC l.prog w K mg base C frp _ (spRepr C) := ⟨ok_repr Frp (nn _ znstr) R, zarp, zirp, brp⟩
    have Gpool : Def l.prog w K mg base CX0 1 "_law_pool" ["_law_script", "_law_k"] (spPool K) fpool _ := ⟨ok_pool Fpool Bu1, PySem.W.mg_of X G zapool, zkpool, bpool⟩
    have Gtake : Def l.prog w K mg base CX0 1 "_law_take" ["_law_pool_here", "_law_many"] spTake ftake _ := ⟨ok_take Ftake, PySem.W.mg_of X G zatake, zktake, btake⟩
    have Grai := ok_raised (P := l.prog) (w := w) (base := base) Frai B (nn _ znrepr) (nn _ znValueError) R R2 I I2 M Gov bov ⟨zaov, ziov, zkov⟩ T
    have Gbot : FnOk l.prog w K mg base CX0 1 fbot _ ["self"] (getSp C "own_bottom") := fn_getter (k := 0) zlbot zcbot (N := ["self"]) ⟨rfl, rfl, rfl, by decide +kernel, rfl, by decide +kernel, by decide +kernel⟩ rfl rfl cl zcBot
    exact ok_law Flaw Bl1 R R2 M E1 Gpool Gtake Grai (PySem.W.mg_of X G zarai) zkrai brai T ⟨zabot, zgbot, ztbot, _, zrbot⟩ Gbot bbot
end Fu
open PySem PySem.W PyProof.Rows
set_option maxRecDepth 100000 in
set_option maxHeartbeats 0 in
theorem PySem.Challenge.cw_fusenets_k11_ratios_refused_holds : PySem.Challenge.rw_fusenets_k11_ratios_refused.Holds := by
  w_on; o_law; k_head; (case hw => w_witness2)
  k_fill
  refine Fu.walk_G (l := PySem.Challenge.rw_fusenets_k11_ratios_refused) (n := 63) (k := 9) (sp := Fu.spLaw) (x := "_law_script") rfl (by decide) rfl ⟨⟨rfl, by decide, by decide⟩, rfl⟩ (fun w h Y => PySem.W.kIn_of Y) ?F (fun K H a ns hl _ hS => ⟨a, ns, rfl, hS, hl, fun _ => rfl⟩)
  case F =>
    intro w mg fa h KX G hmg
    refine' Fu.all_mk KX G hmg ?zaC ?zaCI ?zaii ?zlii ?zcii ?zkii ?zagcd ?zlgcd ?zcgcd ?zkgcd ?zaisn ?zlisn ?zcisn ?zkisn ?zapar ?zlpar ?zcpar ?zkpar ?zapool ?zlpool ?zcpool ?zkpool ?zatake ?zltake ?zctake ?zktake ?zarai ?zlrai ?zcrai ?zkrai ?zalaw ?zllaw ?zclaw ?zklaw ?zaX ?ziX ?zlX ?zcX ?zkX ?zaeq ?zieq ?zleq ?zceq ?zkeq ?zaov ?ziov ?zlov ?zcov ?zkov ?zarp ?zirp ?zlrp ?zcrp ?zkrp ?zainit ?ziinit ?zlinit ?zcinit ?zkinit ?zdinit ?zabot ?zgbot ?ztbot ?zrbot ?zlbot ?zcbot ?zkbot ?znisinstance ?znint ?znbool ?znabs ?znlen ?znrange ?znmax ?znmin ?znrepr ?znstr ?znValueError ?zxL ?zeSa ?zeGa ?zeGg ?zeV ?zeT1 ?zeK ?zeE ?zeVE ?zeT ?zeH ?zeI ?zeS ?zeC ?zeM ?zcPg ?zcHd ?zcPo ?zcSa ?zcMk ?zcKc ?zcCl ?zcSp ?zcTk ?zcMo ?zcI ?zcT ?zcInt ?zcBool ?zcTop ?zcBot ?zcNe ?zmNoneType ?zmbool ?zmint ?zmstr ?zmlist ?zmtuple ?zmdict
    (case zaC => first | k_is | rfl)
    (case zaCI => first | k_is | rfl)
    (case zaii => first | k_is | rfl)
    (case zlii => first | k_is | rfl)
    (case zcii => first | k_is | rfl)
    (case zkii => first | k_is | rfl)
    (case zagcd => first | k_is | rfl)
    (case zlgcd => first | k_is | rfl)
    (case zcgcd => first | k_is | rfl)
    (case zkgcd => first | k_is | rfl)
    (case zaisn => first | k_is | rfl)
    (case zlisn => first | k_is | rfl)
    (case zcisn => first | k_is | rfl)
    (case zkisn => first | k_is | rfl)
    (case zapar => first | k_is | rfl)
    (case zlpar => first | k_is | rfl)
    (case zcpar => first | k_is | rfl)
    (case zkpar => first | k_is | rfl)
    (case zapool => first | k_is | rfl)
    (case zlpool => first | k_is | rfl)
    (case zcpool => first | k_is | rfl)
    (case zkpool => first | k_is | rfl)
    (case zatake => first | k_is | rfl)
    (case zltake => first | k_is | rfl)
    (case zctake => first | k_is | rfl)
    (case zktake => first | k_is | rfl)
    (case zarai => first | k_is | rfl)
    (case zlrai => first | k_is | rfl)
    (case zcrai => first | k_is | rfl)
    (case zkrai => first | k_is | rfl)
    (case zalaw => first | k_is | rfl)
    (case zllaw => first | k_is | rfl)
    (case zclaw => first | k_is | rfl)
    (case zklaw => first | k_is | rfl)
    (case zaX => first | k_is | rfl)
    (case ziX => first | k_is | rfl)
    (case zlX => first | k_is | rfl)
    (case zcX => first | k_is | rfl)
    (case zkX => first | k_is | rfl)
    (case zaeq => first | k_is | rfl)
    (case zieq => first | k_is | rfl)
    (case zleq => first | k_is | rfl)
    (case zceq => first | k_is | rfl)
    (case zkeq => first | k_is | rfl)
    (case zaov => first | k_is | rfl)
    (case ziov => first | k_is | rfl)
    (case zlov => first | k_is | rfl)
    (case zcov => first | k_is | rfl)
    (case zkov => first | k_is | rfl)
    (case zarp => first | k_is | rfl)
    (case zirp => first | k_is | rfl)
    (case zlrp => first | k_is | rfl)
    (case zcrp => first | k_is | rfl)
    (case zkrp => first | k_is | rfl)
    (case zainit => first | k_is | rfl)
    (case ziinit => first | k_is | rfl)
    (case zlinit => first | k_is | rfl)
    (case zcinit => first | k_is | rfl)
    (case zkinit => first | k_is | rfl)
    (case zdinit => first | k_is | rfl)
    (case zabot => first | k_is | rfl)
    (case zgbot => first | k_is | rfl)
    (case ztbot => first | k_is | rfl)
    (case zrbot => first | k_is | rfl)
    (case zlbot => first | k_is | rfl)
    (case zcbot => first | k_is | rfl)
    (case zkbot => first | k_is | rfl)
    (case znisinstance => first | k_is | rfl)
    (case znint => first | k_is | rfl)
    (case znbool => first | k_is | rfl)
    (case znabs => first | k_is | rfl)
    (case znlen => first | k_is | rfl)
    (case znrange => first | k_is | rfl)
    (case znmax => first | k_is | rfl)
    (case znmin => first | k_is | rfl)
    (case znrepr => first | k_is | rfl)
    (case znstr => first | k_is | rfl)
    (case znValueError => first | k_is | rfl)
    (case zxL => first | k_is | rfl)
    (case zeSa => first | k_is | rfl)
    (case zeGa => first | k_is | rfl)
    (case zeGg => first | k_is | rfl)
    (case zeV => first | k_is | rfl)
    (case zeT1 => first | k_is | rfl)
    (case zeK => first | k_is | rfl)
    (case zeE => first | k_is | rfl)
    (case zeVE => first | k_is | rfl)
    (case zeT => first | k_is | rfl)
    (case zeH => first | k_is | rfl)
    (case zeI => first | k_is | rfl)
    (case zeS => first | k_is | rfl)
    (case zeC => first | k_is | rfl)
    (case zeM => first | k_is | rfl)
    (case zcPg => first | k_is | rfl)
    (case zcHd => first | k_is | rfl)
    (case zcPo => first | k_is | rfl)
    (case zcSa => first | k_is | rfl)
    (case zcMk => first | k_is | rfl)
    (case zcKc => first | k_is | rfl)
    (case zcCl => first | k_is | rfl)
    (case zcSp => first | k_is | rfl)
    (case zcTk => first | k_is | rfl)
    (case zcMo => first | k_is | rfl)
    (case zcI => first | k_is | rfl)
    (case zcT => first | k_is | rfl)
    (case zcInt => first | k_is | rfl)
    (case zcBool => first | k_is | rfl)
    (case zcTop => first | k_is | rfl)
    (case zcBot => first | k_is | rfl)
    (case zcNe => first | k_is | rfl)
    (case zmNoneType => first | k_is | rfl)
    (case zmbool => first | k_is | rfl)
    (case zmint => first | k_is | rfl)
    (case zmstr => first | k_is | rfl)
    (case zmlist => first | k_is | rfl)
    (case zmtuple => first | k_is | rfl)
    (case zmdict => first | k_is | rfl)
