import PyProof.Rows.All
import Wide.All
import OpenK.AllK
import Wide.FinOn
import HandS.ForMost
import HandS.ForExc
import HandS.IsInst
import HandS.ExcInit
import HandS.ExcField
import HandS.ExcIs
import HandS.CallSlots
import HandS.HotCalls
import HandS.OwnEq
import HandS.Property
import HandS.Defaults
import HandS.Wide
import HandS.RaiseMore
import HandS.FStr
import HandS.TryMany
import HandS.Flow
import HandS.Evl
import KE.KExcIs
import PySem.Challenge.RW_fusenets_k14_nets_and_points_refused
import HandS.Walk
import PyProof.NeKinds
import HandS.Star
import HandS.Style
import HandS.NoneIn
import HandS.DictComp
import HandS.More
import HandS.ExcValue
import HandS.Strs
set_option Elab.async false
set_option linter.all false
set_option maxRecDepth 100000
set_option maxHeartbeats 4000000
/-! Rules that hold of any program: data by their shape, // of ints of any size, repr, ==. -/
namespace Fu
open PySem L2
open PyProof.Rows hiding St

/-- an if whose test is known -/
theorem if_true_of {c : Bool} {A B : Prop} (hc : c = true) (h : A) : if c = true then A else B := by
  rw [if_pos hc]
  exact h
theorem if_false_of {c : Bool} {A B : Prop} (hc : c = false) (h : B) : if c = true then A else B := by
  rw [hc, if_neg Bool.false_ne_true]
  exact h
/-! ### // of two ints, the divisor not 0 and below 2 ^ 9000 -/
section
variable {X : Cx}
theorem op_fdivB : OpR X (binaryOp .FloorDiv) (rI (fun _ j => j ≠ 0 ∧ j.natAbs.log2 < 9000) fun i j => .int (i.fdiv j)) := opI fun _ _ _ _ _ _ _ hc q => floordiv_int hc.1 q (.inl (PyProof.noPylong_of_log2 hc.2))
end

/-! ### data -/
inductive D where
  | non | bl (b : Bool) | int (i : Int) | str (x : Str) | lst (l : List D) | tup (l : List D) | dic | rat (n d : Int)

/-- the fields of a Ratio -/
def rf (n d : Int) : List (Str × V) := putF "own_bottom" (.int d) (putF "own_top" (.int n) [])

mutual
/-- v is the datum d in the heap H (C: the class of Ratios) -/
def At (C : Addr) (H : Hp) : D → V → Prop
  | .non, v => v = .non
  | .bl b, v => v = .bl b
  | .int i, v => v = .int i
  | .str x, v => v = .str x
  | .lst l, v => ∃ a xs, v = .ref a ∧ H a = some (.lst xs) ∧ Ats C H l xs
  | .tup l, v => ∃ a xs, v = .ref a ∧ H a = some (.tup xs) ∧ Ats C H l xs
  | .dic, v => ∃ a, v = .ref a ∧ H a = some (.dK [])
  | .rat n d, v => ∃ a dx, v = .ref a ∧ H a = some (.ins C dx (rf n d))
def Ats (C : Addr) (H : Hp) : List D → List V → Prop
  | [], xs => xs = []
  | d :: l, xs => ∃ x r, xs = x :: r ∧ At C H d x ∧ Ats C H l r
end
mutual
theorem At.ex {C : Addr} {H H' : Hp} (e : Same H H') : ∀ {d : D} {v : V}, At C H d v → At C H' d v
  | .non, _, h => h
  | .bl _, _, h => h
  | .int _, _, h => h
  | .str _, _, h => h
  | .lst l, _, h => by
    obtain ⟨a, xs, hv, ha, hs⟩ := h
    exact ⟨a, xs, hv, e _ _ ha, Ats.ex e hs⟩
  | .tup l, _, h => by
    obtain ⟨a, xs, hv, ha, hs⟩ := h
    exact ⟨a, xs, hv, e _ _ ha, Ats.ex e hs⟩
  | .dic, _, h => by
    obtain ⟨a, hv, ha⟩ := h
    exact ⟨a, hv, e _ _ ha⟩
  | .rat n d, _, h => by
    obtain ⟨a, dx, hv, ha⟩ := h
    exact ⟨a, dx, hv, e _ _ ha⟩
theorem Ats.ex {C : Addr} {H H' : Hp} (e : Same H H') : ∀ {l : List D} {xs : List V}, Ats C H l xs → Ats C H' l xs
  | [], _, h => h
  | d :: l, _, h => by
    obtain ⟨x, r, hx, h1, h2⟩ := h
    exact ⟨x, r, hx, At.ex e h1, Ats.ex e h2⟩
end

/-- the class of a datum -/
def tyD (C : Addr) : D → Value
  | .non => .type "NoneType"
  | .bl _ => .type "bool"
  | .int _ => .type "int"
  | .str _ => .type "str"
  | .lst _ => .type "list"
  | .tup _ => .type "tuple"
  | .dic => .type "dict"
  | .rat _ _ => .ref C

/-- what isinstance asks of an own class -/
structure ClsI (K : PySem.W.Frag) (C : Addr) : Prop where
  cl : Cls K C
  ha : PySem.W.findIn K (.ref C) "__class__" = some (some (.builtin "object.__class__"))
  hn : PySem.W.specialIn K (.builtin "object.__class__") "__get__" = some (some (.builtin "getset_descriptor.__get__"))
  htk : PySem.W.takesIn K (.builtin "object.__class__") = some true
  hm : PySem.W.mroIn K C (.type "object") = some true
theorem ty_at {K : PySem.W.Frag} {C : Addr} {H : Hp} (T : ClsI K C) : ∀ {d : D} {v : V}, At C H d v → TyX K H v (tyD C d)
  | .non, _, h => by cases (show _ = V.non from h); exact .base .non
  | .bl b, _, h => by cases (show _ = V.bl b from h); exact .base (.bl b)
  | .int i, _, h => by cases (show _ = V.int i from h); exact .base (.int i)
  | .str x, _, h => by cases (show _ = V.str x from h); exact .base (.str x)
  | .lst l, _, h => by
    obtain ⟨a, xs, rfl, ha, _⟩ := h
    exact .base (.lst ha)
  | .tup l, _, h => by
    obtain ⟨a, xs, rfl, ha, _⟩ := h
    exact .base (.tup ha)
  | .dic, _, h => by
    obtain ⟨a, rfl, ha⟩ := h
    exact .base (.dK ha)
  | .rat n d, _, h => by
    obtain ⟨a, dx, rfl, ha⟩ := h
    exact .base (.ins ha T.cl T.ha T.hn T.htk T.hm)
end Fu

/-! Own errors: class E(..): def __init__(self, f): self.f = f. Made and raised; a new instance whose __init__ may raise. -/
namespace Fu
open PySem L2
open PyProof.Rows hiding St
/-- the promise of such an __init__ -/
def spX (C : Addr) (f : Str) : Sp := fun vs H Q _ => ∃ (a : Addr) (v : V), vs = [.ref a, v] ∧ H a = some (exo a C none) ∧ ∀ dx, H dx = none → dx ≠ a → Q .non (upd (upd H dx (exd dx [(f, v)])) a (exo a C (some dx)))
/-- what the written part says of such a class -/
structure ErrC (K : PySem.W.Frag) (mg : Str → Option Value) (x f : Str) (C fI : Addr) : Prop where
  oex : OexC K C
  gC : mg x = some (.ref C)
  iC : PySem.W.findIn K (.ref C) "__init__" = some (some (.ref fI))
  tI : PySem.W.typeIn K (.ref fI) = some (.type "function")
  noF : PySem.W.findIn K (.ref C) f = some none
  xf : XfC K C
section
variable {X : Cx} {C fI : Addr} {x f : Str} {e : Expr} {ta : TA} {p pos : Pos} {k : Nat} {fd : FuncData}
/-- E(e) -/
def tMkX (C : Addr) (f : Str) (ta : TA) : St → Hp → XK → Prop := fun σ H Q => ta σ H fun vs H1 => ∃ v, vs = [v] ∧ ∀ d, H1 d = none → Q (.ref C) (some d) (upd H1 d (.xd [(f, v)]))
theorem pmk_mono {e : Expr} {t t' : St → Hp → XK → Prop} (h : PMk X e t) (m : ∀ σ H Q, t' σ H Q → t σ H Q) : PMk X e t' := fun pins s σ H Q I q => h pins s σ H Q I (m σ H Q q)
theorem mkX_of (hm : ∀ σ H (Q Q' : List V → Hp → Prop), (∀ vs H1, Q vs H1 → Q' vs H1) → ta σ H Q → ta σ H Q') (σ : St) (H : Hp) (Q : XK) (h : tMkX C f ta σ H Q) : tMkO C (spX C f) [] ta σ H Q := by
  refine hm σ H _ _ (fun vs H1 q => ?_) h
  obtain ⟨v, rfl, k⟩ := q
  refine ⟨(show 1 ≤ 1000 by decide), fun a ha => ?_⟩
  refine ⟨a, v, rfl, upd_same, fun dx hdx ne => ⟨rfl, dx, [(f, v)], upd_same, by rw [upd_ne ne, upd_same], ?_, ?_⟩⟩
  · rw [upd_ne ne] at hdx
    exact hdx
  · rw [upd_ne ne] at hdx
    have hh := k dx hdx
    have eq : upd (del (upd (upd (upd H1 a (exo a C none)) dx (exd dx [(f, v)])) a (exo a C (some dx))) a) dx (.xd [(f, v)]) = upd H1 dx (.xd [(f, v)]) := by
      funext b
      by_cases hb : b = dx
      · subst hb
        rw [upd_same, upd_same]
      · rw [upd_ne hb, upd_ne hb]
        by_cases hba : b = a
        · subst hba
          rw [del_same]
          exact ha.symm
        · rw [del_ne hba, upd_ne hba, upd_ne hb, upd_ne hba]
    rw [eq]
    exact hh
theorem tCons_mono {te : TE} (h : ∀ σ H (Q Q' : VK), (∀ v H1, Q v H1 → Q' v H1) → te σ H Q → te σ H Q') : ∀ σ H (Q Q' : List V → Hp → Prop), (∀ vs H1, Q vs H1 → Q' vs H1) → tCons te tNil σ H Q → tCons te tNil σ H Q' :=
  fun σ H _ _ m q => h σ H _ _ (fun v H1 z => m [v] H1 z) q
theorem tVar_mono (i : Nat) : ∀ σ H (Q Q' : VK), (∀ v H1, Q v H1 → Q' v H1) → tVar i σ H Q → tVar i σ H Q' := fun _ H _ _ m q => by
  obtain ⟨v, e, q⟩ := q
  exact ⟨v, e, m _ _ q⟩
theorem tC_mono (v : V) : ∀ σ H (Q Q' : VK), (∀ v H1, Q v H1 → Q' v H1) → tC v σ H Q → tC v σ H Q' := fun _ H _ _ m q => m _ _ q
/-- raise E(e) -/
def tRaiseX (C : Addr) (f : Str) (W : WX) (ta : TA) : TS := fun _ σ H => tMkX C f ta σ H fun cls d H' => W cls d σ H'
theorem ps_raiseX {CX : CXT} {te : TE} {W : WX} {pos2 : Pos} (hc : X.calm = true) (T : ErrC X.K X.mg x f C fI) (F1 : FnOk X.prog X.w X.K X.mg X.base CX k fI fd ["self", f] (spX C f)) (hr : Room (k + 1) X.A) (hb : Binds X.K fd ["self", f] [])
    (hx : Passes CX X (fun _ _ _ => False)) (tk : Takes X W) (ha : PE X e te) (hm : ∀ σ H (Q Q' : VK), (∀ v H1, Q v H1 → Q' v H1) → te σ H Q → te σ H Q') (hg : Gl X x := by rfl)
    (hs : starEach [e] X.env = (false, eval e X.env) :: starEach [] X.env := by rfl) (hdb : (x == ("__debug__" : Str)) = false := by decide) (hpl : (backTo pos (starEach [] X.env)).any (·.1) = false := by rfl) :
    PS X (.Raise (some (.Call (.Name x p) [e] [] pos)) none pos2) (tRaiseX C f W (tCons te tNil)) :=
  ps_raise hc tk (pmk_mono (pmk_oex T.oex T.iC T.tI F1 hr hb .nil hx hg T.gC (pa_cons ha pa_nil hs) hdb hs hpl) (mkX_of (tCons_mono hm)))
end
/-- the __init__ itself -/
theorem ok_xinit {P : Program} {w : World} {K : PySem.W.Frag} {mg : Str → Option Value} {base : Heap} {C fI : Addr} {x f qual : Str} {fd : FuncData} {st : Stmt} {p1 p2 p3 p4 : Pos} (F : Fun K "__init__" qual st fI fd) (T : ErrC K mg x f C fI)
    (hb : defBody st = [.Assign [.Attribute (.Name "self" p1) f p2] (.Name f p3) p4]) (sc : FnScope ["self", f] ["self", f] (defScope st))
    (hsw : ∀ (env : Env), swapsWith (.Name f p3) (some (.Attribute (.Name "self" p1) f p2)) p4.line env = pure false) (v0 : Vis (defScope st) "self") (v1 : Vis (defScope st) f) (d1 : (f == ("__debug__" : Str)) = false) (d2 : (f == ("__classdict__" : Str)) = false) :
    FnOk P w K mg base CX0 1 fI fd ["self", f] (spX C f) := by
  refine F.ok sc (fun vs H Q E h => ?_) (fun cdv A outer s H vs Q E hr h => ?_)
  · obtain ⟨a, v, rfl, _⟩ := h
    rfl
  · obtain ⟨a, v, rfl, ha, k⟩ := h
    rw [hb]
    refine ⟨_, pss_one (ps_ost (pe_var (i := 0) rfl v0) (pe_var (i := 1) rfl v1 d1 d2) (hsw _)), ?_⟩
    exact ⟨_, rfl, _, rfl, a, C, rfl, T.oex, T.noF, .inl ⟨ha, fun dx n ne => k dx n ne⟩⟩
end Fu

/-! A new instance, a method, whose code may raise: what is raised is wished for at the caller's slots. -/
namespace Fu
open PySem L2
open PyProof.Rows hiding St
section
variable {X : Cx} {CX : CXT} {k : Nat} {f C : Addr} {fd : FuncData} {ps : List Str} {sp : Sp} {dvs : List V} {ds : List Value} {E : St → XK} {x m : Str} {p pos apos : Pos} {e o : Expr} {es : List Expr} {ta : TE} {t : TA}
/-- what lies behind a raise in the callee, the new instance tracked -/
theorem run_makeS {pins : List (Addr × Obj)} {σ : St} {H : Hp} {s : Shared} {Q : VK} {us : List Value} {vs : List V} (M : Mk X.K C f) (F : FnOk X.prog X.w X.K X.mg X.base CX k f fd ps sp) (hr : Room (k + 1) X.A) (hb : Binds X.K fd ps ds) (hd : Vals dvs ds)
    (hx : PassesAt CX X σ (E σ)) (I : Inv X pins σ H s) (r : Vals vs us)
    (h : ∀ x dx, H x = none → H dx = none → dx ≠ x → sp (.ref x :: (vs ++ dvs)) (upd (upd H dx (.own x)) x (.ins C dx [])) (fun v H2 => v = .non ∧ Q (.ref x) H2) (E σ)) :
    wpAny (model X.prog X.w) X.A (call (.ref C) us) (EP X pins σ Q) X.xe s := by
  have hq := h (s.heap.objs.size + 1) s.heap.objs.size (I.hok.fresh (Nat.le_succ _)) (I.hok.fresh (Nat.le_refl _)) (Nat.ne_of_lt (Nat.lt_succ_self _))
  have I2 := Inv.made (C := C) I
  have r2 : Vals (V.ref (s.heap.objs.size + 1) :: (vs ++ dvs)) (Value.ref (s.heap.objs.size + 1) :: (us ++ ds)) := .cons rfl (r.append hd)
  have hl : (Value.ref (s.heap.objs.size + 1) :: us ++ ds).length = ps.length := by
    have e := r2.length
    rw [F.len _ _ _ _ hq] at e
    exact e.symm
  refine wpAny_call (make_map (f := f) I.kIn M.makes M.init (beq_iff_eq.mp M.fn) (codeAny_mono (F.run _ X.stack _ _ ⟨Value.ref (s.heap.objs.size + 1) :: us, []⟩ (Value.ref (s.heap.objs.size + 1) :: (us ++ ds)) _ _ (E σ) (hr.make C us [])
    (I2.env0.make C us []) (hb _ (Value.ref (s.heap.objs.size + 1) :: us) I2.kIn hl) r2 hq) fun r s' hq' => ?_))
  cases r with
  | error e => exact hx pins _ _ e s' I2 hq'
  | ok fl =>
    cases fl with
    | ret u =>
      obtain ⟨v, H', I3, rv, ev, q3⟩ := I2.after hq'
      subst ev
      exact ⟨rv, ⟨V.ref (s.heap.objs.size + 1), H', I3, rfl, q3⟩⟩
    | next => exact False.elim hq'
    | brk => exact False.elim hq'
    | cont => exact False.elim hq'
/-- C(e, ..) -/
def tMakeS (C : Addr) (sp : Sp) (dvs : List V) (E : St → XK) (t : TA) : TE := fun σ H Q => t σ H fun vs H1 => ∀ x dx, H1 x = none → H1 dx = none → dx ≠ x →
  sp (.ref x :: (vs ++ dvs)) (upd (upd H1 dx (.own x)) x (.ins C dx [])) (fun v H2 => v = .non ∧ Q (.ref x) H2) (E σ)
theorem pe_makeS (M : Mk X.K C f) (F : FnOk X.prog X.w X.K X.mg X.base CX k f fd ps sp) (hr : Room (k + 1) X.A) (hg : Gl X x) (hm : X.mg x = some (.ref C)) (hb : Binds X.K fd ps ds) (hd : Vals dvs ds) (hx : ∀ σ, PassesAt CX X σ (E σ))
    (ha : PA X (e :: es) t) (hdb : (x == ("__debug__" : Str)) = false := by decide) (he : starEach (e :: es) X.env = (false, eval e X.env) :: starEach es X.env := by rfl) (hpl : (backTo pos (starEach es X.env)).any (·.1) = false := by rfl) :
    PE X (.Call (.Name x p) (e :: es) [] pos) (tMakeS C sp dvs E t) := by
  refine ⟨fun pins s σ H Q I h => ?_⟩
  refine wpAny_Call_Name_kw (ld_glob I hg hm ?_ hdb)
  refine PySem.W.callWith_K (h₀ := X.base) I.ok.mod.kin M.kp (thn (ha.run pos pins s σ H _ I h) fun us s1 ⟨vs, H1, I1, r, q⟩ => ⟨I1.kIn, ?_⟩) he hpl
  exact run_makeS M F hr hb hd (hx σ) I1 r q
/-- o.m(e, ..) -/
def tMethS (C : Addr) (m : Str) (sp : Sp) (dvs : List V) (E : St → XK) (ta : TE) (t : TA) : TE := fun σ H Q => ta σ H fun x H1 => ∃ a dx fs, x = .ref a ∧ H1 a = some (.ins C dx fs) ∧ fs.lookup m = none ∧
  t σ H1 fun vs H2 => sp (x :: (vs ++ dvs)) H2 Q (E σ)
theorem pe_methS {pl : Sem Bool} (he : PE X o ta) (c : Cls X.K C) (hm : Meth X.K C m f) (F : FnOk X.prog X.w X.K X.mg X.base CX k f fd ps sp) (hr : Room k X.A) (hb : Binds X.K fd ps ds) (hd : Vals dvs ds) (hx : ∀ σ, PassesAt CX X σ (E σ)) (ha : PA X (e :: es) t)
    (hst : starEach (e :: es) X.env = (false, eval e X.env) :: starEach es X.env := by rfl) (hpl : (backTo pos (starEach es X.env)).any (·.1) = false := by rfl)
    (ht : eval (.Call (.Attribute o m apos) (e :: es) [] pos) X.env = (do
      let ov ← eval o X.env
      standAt apos.atName
      let (f, first) ← holding [ov] (getMethod ov m pl)
      callWith pos f first (backTo pos (starEach (e :: es) X.env)) (backToKw pos (keywordEach [] X.env))) := by rfl) :
    PE X (.Call (.Attribute o m apos) (e :: es) [] pos) (tMethS C m sp dvs E ta t) := by
  refine ⟨fun pins s σ H Q I h => ?_⟩
  refine PySem.W.methodCall_KW (pl := pl) (thn (he.run pins s σ H _ I h) fun u s1 ⟨x, H1, I1, rx, a, dx, fs, ex, ea, l, q⟩ => ?_) ht
  subst ex
  obtain rfl : u = Value.ref a := rx
  refine getmeth_ok I1 ea c hm l ?_
  refine PySem.W.callWith_K (first := [.ref a]) (h₀ := X.base) I.ok.mod.kin hm.kp (thn (ha.run pos pins s1 σ H1 _ I1 q) fun us s2 ⟨vs, H2, I2, r, q2⟩ => ⟨I2.kIn, ?_⟩) hst hpl
  exact run_fnSD (us := .ref a :: us) (vs := .ref a :: vs) F hr hb hd (hx σ) I2 (.cons rfl r) q2
end
/-! ### a def by its name -/
structure Def (P : Program) (w : World) (K : PySem.W.Frag) (mg : Str → Option Value) (base : Heap) (CX : CXT) (k : Nat) (x : Str) (ps : List Str) (sp : Sp) (f : Addr) (fd : FuncData) : Prop where
  ok : FnOk P w K mg base CX k f fd ps sp
  g : mg x = some (.ref f)
  kp : PySem.W.keepIn K (.ref f) = true
  b : Binds K fd ps []
section
variable {X : Cx} {CX : CXT} {k : Nat} {f C : Addr} {fd : FuncData} {ps : List Str} {sp : Sp} {E : St → XK} {x m : Str} {p pos apos : Pos} {e o : Expr} {es : List Expr} {ta : TE} {t : TA}
/-- f(e, ..), f lets nothing out -/
theorem pe_def (d : Def X.prog X.w X.K X.mg X.base CX0 k x ps sp f fd) (hr : Room k X.A) (ha : PA X (e :: es) t) (hg : Gl X x := by rfl) (hdb : (x == ("__debug__" : Str)) = false := by decide)
    (he : starEach (e :: es) X.env = (false, eval e X.env) :: starEach es X.env := by rfl) (hpl : (backTo pos (starEach es X.env)).any (·.1) = false := by rfl) : PE X (.Call (.Name x p) (e :: es) [] pos) (tCall sp [] E0 t) :=
  pe_call d.ok hr hg d.g d.kp d.b .nil pass0 ha hdb he hpl
/-- f(e, ..), f may raise; where nothing may be let out (the promise shows that it does not) -/
theorem pe_defL (d : Def X.prog X.w X.K X.mg X.base (L2.CX X.prog X.w) k x ps sp f fd) (hr : Room k X.A) (ha : PA X (e :: es) t) (hg : Gl X x := by rfl) (hdb : (x == ("__debug__" : Str)) = false := by decide)
    (he : starEach (e :: es) X.env = (false, eval e X.env) :: starEach es X.env := by rfl) (hpl : (backTo pos (starEach es X.env)).any (·.1) = false := by rfl) : PE X (.Call (.Name x p) (e :: es) [] pos) (tCall sp [] E0 t) :=
  pe_call d.ok hr hg d.g d.kp d.b .nil passL ha hdb he hpl
end
end Fu

/-! Comparisons of own instances by their own methods: x op y, y op x (reflected), x != y by __eq__. -/
namespace Fu
open PySem L2
open PyProof.Rows hiding St
section
variable {X : Cx} {CX : CXT} {k : Nat} {f C : Addr} {fd : FuncData} {ps : List Str} {sp : Sp} {E : XK}
/-- a callee's own value is never NotImplemented -/
theorem back_of {pins : List (Addr × Obj)} {σ : St} {Q : VK} {u : Value} {s' : Shared} (h : EP X pins σ Q u s') : PySem.W.CmpBack (EP X pins σ Q) u s' := by
  obtain ⟨v, H', I, r, q⟩ := id h
  cases v with
  | non => cases r; exact h
  | bl b => cases r; exact h
  | int i => obtain ⟨t, rfl⟩ := r; exact h
  | str x => obtain ⟨t, rfl⟩ := r; exact h
  | byt b => obtain ⟨t, rfl⟩ := r; exact h
  | flt b => obtain ⟨t, rfl⟩ := r; exact h
  | ref a => cases r; exact h
  | ty n => cases r; exact h
theorem inst_of {pins : List (Addr × Obj)} {σ : St} {H : Hp} {s : Shared} {a dx : Addr} {fs : List (Str × V)} (I : Inv X pins σ H s) (h : H a = some (.ins C dx fs)) : ∃ od, PySem.W.InstAt s.heap a (PySem.W.instObj C dx) C (some od) := by
  obtain ⟨mA, O, _⟩ := ins_get I.hok h
  obtain ⟨od, J, _⟩ := O.look
  exact ⟨od, J⟩
/-- x op y, x an own instance -/
def rOwn (K : PySem.W.Frag) (C : Addr) (sp : Sp) (E : XK) : R2 := fun x y H Q => ∃ a dx fs t, x = .ref a ∧ H a = some (.ins C dx fs) ∧ TyX K H y t ∧ PySem.W.notFirst K C t = true ∧ sp [.ref a, y] H Q E
theorem op_own {op : CmpOp} (F : FnOk X.prog X.w X.K X.mg X.base CX k f fd ps sp) (hr : Room k X.A) (hs : PySem.W.findIn X.K (.ref C) (cmpInfo op).2.1 = some (some (.ref f))) (hf : PySem.W.isFn X.K (.ref f) = true) (hb : Binds X.K fd ps []) (hx : Passes CX X E)
    (ho : ∀ a b, compareOp op a b = richCompare op a b) : OpR X (compareOp op) (rOwn X.K C sp E) := by
  intro pins s σ H x y u v Q I rx ry h
  obtain ⟨a, dx, fs, t, rfl, ha, ty, hn, q⟩ := h
  obtain rfl : u = Value.ref a := rx
  obtain ⟨od, J⟩ := inst_of I ha
  obtain ⟨P, Z, p, _⟩ := kit_of I ry ty
  obtain ⟨m, hF⟩ := I.fr
  rw [ho]
  refine PySem.W.cmp_K (op := op) (tb := t) hr.units0 hF I.ok.mod.kin J (Z.ty _ _ I.kIn p) hn hs hf ?_
  exact thn (run_fn (us := [.ref a, v]) (vs := [.ref a, y]) (dvs := []) (ds := []) F hr hb .nil hx I (.cons rfl (.cons ry .nil)) q) fun u s' h => back_of h
end
end Fu

/-! Defs that raise nothing, called wherever one stands (also while an exception is handled). -/
namespace Fu
open PySem L2
open PyProof.Rows hiding St
open L2H (RoomH roomH_of)
/-- the promise of a def, whatever is being handled -/
structure FnA (P : Program) (w : World) (K : PySem.W.Frag) (mg : Str → Option Value) (base : Heap) (k : Nat) (f : Addr) (fd : FuncData) (ps : List Str) (sp : Sp) : Prop where
  len : ∀ vs H Q E, sp vs H Q E → vs.length = ps.length
  run : ∀ (A : Around) (outer : List Env) (s : Shared) (H : Hp) (args : Args) (us : List Value) (vs : List V) (Q : VK) (E : XK), RoomH k A → Env0 P w K mg base A outer s H → BindsTo s fd args (ps.zip us) → Vals vs us → sp vs H Q E →
    codeAny (model P w) A (.call (.ref f) args) (CR CX0 outer P w H s Q E) s
section
variable {P : Program} {w : World} {K : PySem.W.Frag} {mg : Str → Option Value} {base : Heap} {k : Nat} {f : Addr} {fd : FuncData} {ps : List Str} {sp : Sp}
theorem FnA.calm (F : FnA P w K mg base k f fd ps sp) : FnOk P w K mg base CX0 k f fd ps sp := ⟨F.len, fun A outer s H args us vs Q E hr => F.run A outer s H args us vs Q E (roomH_of hr)⟩
/-- the context of such a def's body -/
abbrev cxA (P : Program) (w : World) (K : PySem.W.Frag) (mg : Str → Option Value) (base : Heap) (N : List Str) (qual : Str) (scope : Scope) (f : Addr) (cd : Value) (A : Around) (outer : List Env) (s : Shared) (H : Hp) (E : XK) : Cx :=
  { cxOf CX0 P w K mg base N qual scope f cd A outer s H E with calm := false, xe := fun _ _ => False }
/-- nothing but «what is handled» hangs on it -/
theorem inv_any {X Y : Cx} {pins : List (Addr × Obj)} {σ : St} {H : Hp} {s : Shared} (I : Inv X pins σ H s) (h1 : Y = { X with A := Y.A, calm := false, xe := Y.xe }) (h2 : Y.A.frames = some Y.stack) : Inv Y pins σ H s := by
  obtain ⟨⟨o1, o2, o3, o4, o5, o6, o7, o8, _, _, o11, o12, o13, o14, o15, o16, o17, o18⟩, i2, i3, i4, i5, i6, i7, i8, i9, i10, i11⟩ := I
  rw [h1] at h2 ⊢
  exact ⟨⟨o1, o2, o3, o4, o5, o6, o7, o8, fun z => Bool.noConfusion (show false = true from z), h2, o11, o12, o13, o14, o15, o16, o17, o18⟩, i2, i3, i4, i5, i6, i7, i8, i9, i10, i11⟩
theorem Env0.quiet {A : Around} {outer : List Env} {s : Shared} {H : Hp} (e : Env0 P w K mg base A outer s H) : Env0 P w K mg base { A with handled := none } outer s H := ⟨e.frames, e.mod, e.bs, e.bsz, e.funs, e.frf, e.hok, e.bare⟩
/-- a def by its body's reading there -/
theorem Fun.okA {x qual : Str} {st : Stmt} {N : List Str} (F : Fun K x qual st f fd) (S : FnScope N ps (defScope st)) (len : ∀ vs H Q E, sp vs H Q E → vs.length = ps.length)
    (hbody : ∀ (cdv : Value) (A : Around) (outer : List Env) (s : Shared) (H : Hp) (vs : List V) (Q : VK) (E : XK), RoomH k (A.deeper (envOfC qual (defScope st) s.heap.objs.size f cdv)) → sp vs H Q E →
      ∃ t, PSs (cxA P w K mg base N qual (defScope st) f cdv A outer s H E) (defBody st) t ∧ t { nx := fun _ H' => Q .non H', rt := Q } (L2.start N vs) H) : FnA P w K mg base (k + 1) f fd ps sp := by
  obtain ⟨oc, od, kV, doc, pm, an, cdv, ct, osl, rfl, lk, hcd⟩ := F.ex
  refine ⟨len, fun A outer s H args us vs Q E hr e0 hb r hsp => ?_⟩
  have KX := e0.mod.kin.keeps fun b o e => (e0.bs b o e).1
  refine codeAny_call_function hr.depth (KX _ _ lk) rfl S.co S.gen rfl (PySem.W.codeRec_of KX hcd) (hb _ _ _ _ (wpAny_newFunctionEnv_cells S.kind (fun z hz => ?_) fun env he s1 x => ?_))
  · rcases S.par z.1 (List.of_mem_zip hz).1 with q | q
    · exact .inl q
    · exact .inr ⟨q, PySem.W.cellsFrom_some _ _ _ (.inl q)⟩
  · subst he
    refine ⟨(e0.mod.nolimit.keeps fun b o e => (e0.bs b o e).1).keeps x.toInCall.keep, codeAny_func ?_⟩
    obtain ⟨t, ht, hq⟩ := hbody cdv A outer s H vs Q E (hr.deeper _) hsp
    have I0 := inv_start (CX := CX0) (E := E) S (A := { A with handled := none }) rfl (Env0.quiet e0) (len _ _ _ _ hsp) r x
    have I : Inv (cxA P w K mg base N qual (defScope st) f cdv A outer s H E) [] (L2.start N vs) H s1 := inv_any I0 rfl (Around.frames_deeper e0.frames)
    refine wpAny_mono (ht.run [] s1 _ H _ I hq) (fun fl s' hs => ?_) fun e s' hs => hs.elim
    cases fl with
    | ret u =>
      obtain ⟨v, _, H', J, rv, q⟩ := hs
      exact ⟨v, H', J.os, J.bare, J.base, J.hok, rv, q⟩
    | next =>
      obtain ⟨_, H', J, q⟩ := hs
      exact ⟨V.non, H', J.os, J.bare, J.base, J.hok, rfl, q⟩
    | brk =>
      obtain ⟨_, _, _, q⟩ := hs
      cases q
    | cont =>
      obtain ⟨_, _, _, q⟩ := hs
      cases q
end
/-- such a def runs, from anywhere -/
theorem run_any {X : Cx} {A : Around} {k : Nat} {f : Addr} {fd : FuncData} {ps : List Str} {sp : Sp} {pins : List (Addr × Obj)} {σ : St} {H : Hp} {s : Shared} {Q : VK} {E : XK} {us : List Value} {vs : List V} (F : FnA X.prog X.w X.K X.mg X.base k f fd ps sp)
    (hr : RoomH k A) (hf : A.frames = some X.stack) (hb : Binds X.K fd ps []) (I : Inv X pins σ H s) (r : Vals vs us) (h : sp vs H Q E) : wpAny (model X.prog X.w) A (call (.ref f) us) (EP X pins σ Q) X.xe s := by
  have e := I.env0
  have e0 : Env0 X.prog X.w X.K X.mg X.base A X.stack s H := ⟨hf, e.mod, e.bs, e.bsz, e.funs, e.frf, e.hok, e.bare⟩
  have b := hb s us I.kIn (by rw [List.append_nil, ← r.length]; exact F.len _ _ _ _ h)
  rw [List.append_nil] at b
  refine wpAny_call (codeAny_mono (F.run A X.stack s H ⟨us, []⟩ us vs Q E hr e0 b r h) fun z s' hq => ?_)
  cases z with
  | error e => cases hq
  | ok fl =>
    cases fl with
    | ret u => exact I.after hq
    | next => cases hq
    | brk => cases hq
    | cont => cases hq
end Fu

/-! Defs that are called where no repr is under way (so that repr of a list, a tuple, a dict may be told). -/
namespace Fu
open PySem L2
open PyProof.Rows hiding St
open L2H (RoomH roomH_of)
/-- room, and no repr under way -/
structure RoomG (k : Nat) (A : Around) : Prop where
  r : Room k A
  g : A.guards = some []
theorem RoomG.mono {j k : Nat} {A : Around} (h : RoomG k A) (e : j ≤ k) : RoomG j A := ⟨h.r.mono e, h.g⟩
theorem RoomG.deeper {k : Nat} {A : Around} (h : RoomG (k + 1) A) (env : Env) : RoomG k (A.deeper env) := ⟨h.r.deeper env, h.g⟩
/-- the promise of a def called there -/
structure FnG (P : Program) (w : World) (K : PySem.W.Frag) (mg : Str → Option Value) (base : Heap) (CX : CXT) (k : Nat) (f : Addr) (fd : FuncData) (ps : List Str) (sp : Sp) : Prop where
  len : ∀ vs H Q E, sp vs H Q E → vs.length = ps.length
  run : ∀ (A : Around) (outer : List Env) (s : Shared) (H : Hp) (args : Args) (us : List Value) (vs : List V) (Q : VK) (E : XK), RoomG k A → Env0 P w K mg base A outer s H → BindsTo s fd args (ps.zip us) → Vals vs us → sp vs H Q E →
    codeAny (model P w) A (.call (.ref f) args) (CR CX outer P w H s Q E) s
section
variable {P : Program} {w : World} {K : PySem.W.Frag} {mg : Str → Option Value} {base : Heap} {CX : CXT} {k : Nat} {f : Addr} {fd : FuncData} {ps : List Str} {sp : Sp}
theorem FnG.of (F : FnOk P w K mg base CX k f fd ps sp) : FnG P w K mg base CX k f fd ps sp := ⟨F.len, fun A outer s H args us vs Q E hr => F.run A outer s H args us vs Q E hr.r⟩
theorem Fun.okG {x qual : Str} {st : Stmt} {N : List Str} (F : Fun K x qual st f fd) (S : FnScope N ps (defScope st)) (len : ∀ vs H Q E, sp vs H Q E → vs.length = ps.length)
    (hbody : ∀ (cdv : Value) (A : Around) (outer : List Env) (s : Shared) (H : Hp) (vs : List V) (Q : VK) (E : XK), RoomG k (A.deeper (envOfC qual (defScope st) s.heap.objs.size f cdv)) → sp vs H Q E →
      ∃ t, PSs (cxOf CX P w K mg base N qual (defScope st) f cdv A outer s H E) (defBody st) t ∧ t { nx := fun _ H' => Q .non H', rt := Q } (L2.start N vs) H) : FnG P w K mg base CX (k + 1) f fd ps sp := by
  obtain ⟨oc, od, kV, doc, pm, an, cdv, ct, osl, rfl, lk, hcd⟩ := F.ex
  refine ⟨len, fun A outer s H args us vs Q E hr e0 hb r hsp => ?_⟩
  have KX := e0.mod.kin.keeps fun b o e => (e0.bs b o e).1
  refine codeAny_call_function hr.r.depth (KX _ _ lk) rfl S.co S.gen rfl (PySem.W.codeRec_of KX hcd) (hb _ _ _ _ (wpAny_newFunctionEnv_cells S.kind (fun z hz => ?_) fun env he s1 x => ?_))
  · rcases S.par z.1 (List.of_mem_zip hz).1 with q | q
    · exact .inl q
    · exact .inr ⟨q, PySem.W.cellsFrom_some _ _ _ (.inl q)⟩
  · subst he
    refine ⟨(e0.mod.nolimit.keeps fun b o e => (e0.bs b o e).1).keeps x.toInCall.keep, codeAny_func ?_⟩
    obtain ⟨t, ht, hq⟩ := hbody cdv A outer s H vs Q E (hr.deeper _) hsp
    have I := inv_start (CX := CX) (E := E) S hr.r.hd e0 (len _ _ _ _ hsp) r x
    refine wpAny_mono (ht.run [] s1 _ H _ I hq) (fun fl s' hs => ?_) fun e s' hs => hs
    cases fl with
    | ret u =>
      obtain ⟨v, _, H', J, rv, q⟩ := hs
      exact ⟨v, H', J.os, J.bare, J.base, J.hok, rv, q⟩
    | next =>
      obtain ⟨_, H', J, q⟩ := hs
      exact ⟨V.non, H', J.os, J.bare, J.base, J.hok, rfl, q⟩
    | brk =>
      obtain ⟨_, _, _, q⟩ := hs
      cases q
    | cont =>
      obtain ⟨_, _, _, q⟩ := hs
      cases q
end
section
variable {X : Cx} {k : Nat} {f : Addr} {fd : FuncData} {ps : List Str} {sp : Sp} {x : Str} {p pos : Pos} {e : Expr} {es : List Expr} {t : TA}
/-- f(e, ..), f lets nothing out -/
theorem pe_callG (F : FnG X.prog X.w X.K X.mg X.base CX0 k f fd ps sp) (hr : RoomG k X.A) (hm : X.mg x = some (.ref f)) (hk : PySem.W.keepIn X.K (.ref f) = true) (hb : Binds X.K fd ps []) (ha : PA X (e :: es) t) (hg : Gl X x := by rfl) (hdb : (x == ("__debug__" : Str)) = false := by decide)
    (he : starEach (e :: es) X.env = (false, eval e X.env) :: starEach es X.env := by rfl) (hpl : (backTo pos (starEach es X.env)).any (·.1) = false := by rfl) : PE X (.Call (.Name x p) (e :: es) [] pos) (tCall sp [] E0 t) := by
  refine ⟨fun pins s σ H Q I h => wpAny_Call_Name_kw (ld_glob I hg hm (PySem.W.callWith_K (h₀ := X.base) I.ok.mod.kin hk (thn (ha.run pos pins s σ H _ I h) fun us s1 ⟨vs, H1, I1, r, q⟩ => ⟨I1.kIn, ?_⟩) he hpl) hdb)⟩
  have hl : us.length = ps.length := by
    rw [← r.length, ← List.append_nil vs]
    exact F.len _ _ _ _ q
  have b := hb s1 us I1.kIn (by rw [List.append_nil]; exact hl)
  rw [List.append_nil] at b
  have q : sp vs H1 Q E0 := by
    have z : sp (vs ++ []) H1 Q E0 := q
    rw [List.append_nil] at z
    exact z
  refine wpAny_call (codeAny_mono (F.run X.A X.stack s1 H1 ⟨us, []⟩ us vs Q E0 hr I1.env0 b r q) fun z s' hq => ?_)
  cases z with
  | error e => cases hq
  | ok fl =>
    cases fl with
    | ret u => exact I1.after hq
    | next => cases hq
    | brk => cases hq
    | cont => cases hq
end
end Fu

/-! The end of a law whose def is told by FnG. -/
namespace Fu
open PySem L2
open PyProof.Rows hiding St
/-- what is tracked at the law's entry: the script, if it is no object of the top -/
def H1st (K : PySem.W.Frag) (a : Addr) (o : Obj) (xs : List V) : Hp := fun b => if b = a then (match K.lookup a with | some _ => none | none => some (.frz o (.lst xs))) else none
section
variable {P : Program} {w : World} {K : PySem.W.Frag} {mg mb : Str → Option Value} {a : Addr} {o : Obj} {xs : List V} {h : Heap}
theorem h1_ne {b : Addr} (e : b ≠ a) : H1st K a o xs b = none := if_neg e
theorem h1_at {b : Addr} {u : HO} (e : H1st K a o xs b = some u) : b = a ∧ K.lookup a = none ∧ u = .frz o (.lst xs) := by
  unfold H1st at e
  split at e
  · rename_i hb
    split at e
    · cases e
    · rename_i hk
      cases e
      exact ⟨hb, hk, rfl⟩
  · cases e
theorem h1_only : Only (H1st K a o xs) := fun b => by
  cases e : H1st K a o xs b with
  | none => exact .inl rfl
  | some u =>
    obtain ⟨_, _, rfl⟩ := h1_at e
    exact .inr ⟨_, _, rfl⟩
end
theorem law_G {P : Program} {w : World} {K : PySem.W.Frag} {mg mb : Str → Option Value} {k : Nat} {fa a : Addr} {fd : FuncData} {x : Str} {sp : Sp} {s : Shared} {vs : List Value} {ns : List Int} (KX : K.In s.heap) (hns : s.heap.Ns mainGlobals mg)
    (hb : s.heap.Ns builtinsNs mb) (hbb : ∀ x : Str, x ≠ "__name__" → mb x = bootBuiltins x) (hlim : s.heap.NoLimit) (hg : s.gens = #[]) (ha : s.heap.get? a = some { cls := .type "list", data := .seq vs.toArray }) (hi : IntsAre vs ns)
    (hl : ns.length ≤ sizeLine) (hr : RoomG k callerA) (F : ∀ base : Heap, K.In base → base.Ns mainGlobals mg → FnG P w K mg base CX0 k fa fd [x] sp) (hbind : ∀ (s : Shared) (u : Value), BindsTo s fd ⟨[u], []⟩ [(x, u)])
    (hsp : ∀ H : Hp, Only H → SqL K H a (ns.map V.int) → sp [.ref a] H (fun v _ => v = .bl true) fun _ _ _ => False) :
    codeAny (model P w) callerA (.call (.ref fa) ⟨[.ref a], []⟩) (fun r s' => r = .ok (.ret (.bool true)) ∧ OldK s.heap s'.heap ∧ s'.os = s.os ∧ AllBare s'.gens) s := by
  have rv := vals_ints hi
  have hz := hi.length
  let ob : Obj := { cls := .type "list", data := .seq vs.toArray }
  let H : Hp := H1st K a ob (ns.map V.int)
  have hok : HOk P w H s.heap := fun b u e => by
    obtain ⟨rfl, _, rfl⟩ := h1_at e
    exact ⟨ha, by rw [List.length_map]; exact hl, vs, _, rv, ha⟩
  have hS : SqL K H a (ns.map V.int) := by
    cases q : K.lookup a with
    | none => exact .inl (.inr ⟨ob, by show H1st K a ob _ a = _; unfold H1st; rw [if_pos rfl, q]⟩)
    | some u =>
      have e := KX a u q
      rw [ha] at e
      cases e
      exact .inr ⟨_, vs.toArray, _, q, rfl, rfl, rfl, by rw [List.size_toArray, hz]; exact hl, by simpa using rv⟩
  have free : ∀ {b : Addr} {u : Obj}, s.heap.get? b = some u → (∀ z n, u.data ≠ .seq z n) → H b = none := fun {b u} e d => by
    cases q : H b with
    | none => rfl
    | some v =>
      obtain ⟨rfl, _, _⟩ := h1_at q
      rw [ha] at e
      cases e
      exact absurd rfl (d _ _)
  have nsK : ∀ {b : Addr} {m : Str → Option Value}, s.heap.Ns b m → (hidT s.heap H).Ns b m := fun {b m} ⟨u, es, ep, e, d, r⟩ => ⟨u, es, ep, hidT_get e (free e fun z n => by rw [d]; intro q; cases q), d, r⟩
  have hKb : K.In (hidT s.heap H) := fun b u e => hidT_get (KX b u e) (by
    cases q : H b with
    | none => rfl
    | some v =>
      obtain ⟨rfl, q2, _⟩ := h1_at q
      rw [q2] at e
      cases e)
  obtain ⟨mc, l1, l2⟩ := hlim
  have e0 : Env0 P w K mg (hidT s.heap H) callerA [] s H := ⟨rfl, ⟨hKb, nsK hns, ⟨mb, nsK hb, hbb⟩, mc, nsK l1, l2⟩, fun b u e => of_hidT e, Nat.le_of_eq (hidT_size _ _), trivial, fun b z => (nomatch z), hok, .of_eq hg⟩
  refine codeAny_mono ((F _ hKb (nsK hns)).run callerA [] s H ⟨[.ref a], []⟩ [.ref a] [.ref a] _ _ hr e0 (hbind s (.ref a)) (.cons rfl .nil) (hsp H h1_only hS)) fun r s' z => ?_
  cases r with
  | error e => cases z
  | ok fl =>
    cases fl with
    | next => cases z
    | brk => cases z
    | cont => cases z
    | ret u =>
      obtain ⟨v, H', os, bare, un, hok', r', q⟩ := z
      obtain rfl : v = .bl true := q
      obtain rfl : u = Value.bool true := r'
      refine ⟨rfl, OldK.of_keep fun b u e => ?_, os, bare⟩
      cases q : H b with
      | none => exact un.keep b u e q (fun z => (nomatch z)) (fun z => (nomatch z))
      | some y =>
        obtain ⟨rfl, _, rfl⟩ := h1_at q
        obtain ⟨e2, _⟩ := hok' b _ (un.frzs b _ _ q)
        rw [ha] at e
        cases e
        exact e2
theorem walk_G {l : PySem.W.OpenLaw} {n k : Nat} {q : Program} {loose : List Str} {XP : (Str → Option Value) → Heap → Prop} {YP : World → Heap → Prop} {d : DefRec} {K : Params → PySem.W.Frag} {sp : PySem.W.Frag → Sp} {x : Str} (hn : l.most = some n) (hn2 : n ≤ sizeLine)
    (hdf : d.params.defaults = []) (hr : RoomG k callerA) (hY : ∀ (w : World) (h : Heap), YP w h → (K w.params).In h)
    (F : ∀ (w : World) (mg : Str → Option Value) (fa : Addr) (h : Heap), (K w.params).In h → h.Ns mainGlobals mg → mg d.name = some (.ref fa) → ∃ fd : FuncData, (∀ (s : Shared) (u : Value), BindsTo s fd ⟨[u], []⟩ [(x, u)]) ∧
      ∀ base : Heap, (K w.params).In base → base.Ns mainGlobals mg → FnG l.prog w (K w.params) mg base CX0 k fa fd [x] (sp (K w.params)))
    (hsp : ∀ (K : PySem.W.Frag) (H : Hp) (a : Addr) (ns : List Int), ns.length ≤ n → Only H → SqL K H a (ns.map V.int) → sp K [.ref a] H (fun v _ => v = .bl true) fun _ _ _ => False) :
    PySem.W.WalkO q loose XP YP l.row.toRowW d [] (fun f vs => PySem.call f vs) := by
  refine Att.attach_call hn hdf fun w s₀ s₁ mg mb fa o pm cd doc a vs ns G Y ho hd hcd hmg hobj hints hlen hg => ?_
  obtain ⟨fd, hb, hF⟩ := F w mg fa _ (hY w _ Y) G.T.g hmg
  exact law_G (hY w _ Y) G.T.g G.T.b G.T.builtins G.T.nolimit hg hobj hints (Nat.le_trans hlen hn2) hr hF hb fun H hO hS => hsp _ H a ns hlen hO hS
end Fu

/-! repr of data. -/
namespace Fu
open PySem L2
open PyProof.Rows hiding St
open L2H (RoomH roomH_of)
/-- how a Ratio is written -/
def rTxt (n m : Int) : Str := if m = 1 then (toString n : String) else Str.ofString (toString n) ++ "/" ++ Str.ofString (toString m)
mutual
def txt : D → Str
  | .non => "None"
  | .bl b => if b then "True" else "False"
  | .int i => (toString i : String)
  | .str x => reprText x
  | .lst l => listText (txts l)
  | .tup l => tupleText (txts l)
  | .dic => dictText []
  | .rat n m => rTxt n m
def txts : List D → List Str
  | [] => []
  | d :: l => txt d :: txts l
end
mutual
/-- the datum as the library's own; no Ratio in it -/
def pd : D → PyData
  | .non => .none
  | .bl b => .bool b
  | .int i => .int i
  | .str x => .str x
  | .lst l => .list (pds l)
  | .tup l => .tuple (pds l)
  | .dic => .dict []
  | .rat _ _ => .none
def pds : List D → List PyData
  | [] => []
  | d :: l => pd d :: pds l
end
mutual
/-- no Ratio and no dict in it -/
def inner : D → Bool
  | .lst l => inners l
  | .tup l => inners l
  | .rat _ _ => false
  | .dic => false
  | _ => true
def inners : List D → Bool
  | [] => true
  | d :: l => inner d && inners l
end
mutual
theorem inner_dict : ∀ d : D, inner d = true → (pd d).hasDict = false
  | .non, _ => rfl
  | .bl b, _ => rfl
  | .int i, _ => rfl
  | .str x, _ => rfl
  | .lst l, h => inners_dict l h
  | .tup l, h => inners_dict l h
theorem inners_dict : ∀ l : List D, inners l = true → PyData.hasDictAll (pds l) = false
  | [], _ => rfl
  | d :: l, h => by
    have h' : (inner d && inners l) = true := h
    rw [Bool.and_eq_true] at h'
    show ((pd d).hasDict || PyData.hasDictAll (pds l)) = false
    rw [inner_dict d h'.1, inners_dict l h'.2]
    rfl
end
mutual
theorem shown_pd : ∀ d : D, inner d = true → (pd d).shown = txt d
  | .non, _ => rfl
  | .bl b, _ => rfl
  | .int i, _ => rfl
  | .str x, _ => rfl
  | .lst l, h => by
    show listText (PyData.shownAll (pds l)) = listText (txts l)
    rw [shown_pds l h]
  | .tup l, h => by
    show tupleText (PyData.shownAll (pds l)) = tupleText (txts l)
    rw [shown_pds l h]
theorem shown_pds : ∀ l : List D, inners l = true → PyData.shownAll (pds l) = txts l
  | [], _ => rfl
  | d :: l, h => by
    have h' : (inner d && inners l) = true := h
    rw [Bool.and_eq_true] at h'
    show (pd d).shown :: PyData.shownAll (pds l) = txt d :: txts l
    rw [shown_pd d h'.1, shown_pds l h'.2]
end
section
variable {X : Cx} {C : Addr} {pins : List (Addr × Obj)} {σ : St} {H : Hp} {s : Shared}
mutual
theorem At.reads (I : Inv X pins σ H s) : ∀ (d : D) (v : V) (u : Value), inner d = true → At C H d v → RelV v u → ∃ as, Reads s.heap u (pd d) as
  | .non, _, _, _, h, r => by
    cases h
    cases r
    exact ⟨[], .none⟩
  | .bl b, _, _, _, h, r => by
    cases h
    cases r
    exact ⟨[], .bool b⟩
  | .int i, _, _, _, h, r => by
    cases h
    obtain ⟨t, rfl⟩ := r
    exact ⟨[], .int i t⟩
  | .str x, _, _, _, h, r => by
    cases h
    obtain ⟨t, rfl⟩ := r
    exact ⟨[], .str x t⟩
  | .lst l, _, _, hn, h, r => by
    obtain ⟨a, xs, rfl, ha, hs⟩ := h
    cases r
    obtain ⟨_, its, n, rv, e⟩ := (show ObjOk X.prog X.w H s.heap a (.lst xs) from I.hok a _ ha)
    obtain ⟨as, q⟩ := Ats.reads I l xs its hn hs rv
    exact ⟨a :: as, .list e rfl rfl (by simpa using q)⟩
  | .tup l, _, _, hn, h, r => by
    obtain ⟨a, xs, rfl, ha, hs⟩ := h
    cases r
    obtain ⟨_, its, rv, o, e, hc, n, hd⟩ := (show ObjOk X.prog X.w H s.heap a (.tup xs) from I.hok a _ ha)
    obtain ⟨as, q⟩ := Ats.reads I l xs its hn hs rv
    exact ⟨as, .tuple e hc hd (by simpa using q)⟩
theorem Ats.reads (I : Inv X pins σ H s) : ∀ (l : List D) (xs : List V) (us : List Value), inners l = true → Ats C H l xs → Vals xs us → ∃ as, ReadsAll s.heap us (pds l) as
  | [], _, _, _, h, r => by
    cases h
    cases r
    exact ⟨[], .nil⟩
  | d :: l, _, _, hn, h, r => by
    have h' : (inner d && inners l) = true := hn
    rw [Bool.and_eq_true] at h'
    obtain ⟨x, ys, rfl, h1, h2⟩ := h
    cases r with
    | cons r1 r2 =>
      obtain ⟨as, q1⟩ := At.reads I d _ _ h'.1 h1 r1
      obtain ⟨bs, q2⟩ := Ats.reads I l _ _ h'.2 h2 r2
      exact ⟨_, .cons q1 q2⟩
end
theorem dic_reads (I : Inv X pins σ H s) {a : Addr} (ha : H a = some (.dK [])) : Reads s.heap (.ref a) (.dict []) [a] ∧ a ≠ sysModules := by
  obtain ⟨_, hy, vs, kv, o, es, ep, e, hx, hd, hr⟩ := (show ObjOk X.prog X.w H s.heap a (.dK []) from I.hok a _ ha)
  cases kv
  obtain ⟨_, hp, _⟩ := hr
  have z : es.toList = [] := by
    generalize es.toList = l at hp
    cases hp
    rfl
  refine ⟨.dict (as := []) (bs := []) e hx.1 hd (by rw [z]; exact .nil) (by rw [z]; exact .nil), fun q => ?_⟩
  rw [q] at hy
  simp at hy
end
/-- what the written part says of Ratio's own repr -/
structure ReprC (P : Program) (w : World) (K : PySem.W.Frag) (mg : Str → Option Value) (base : Heap) (C f : Addr) (fd : FuncData) (sp : Sp) : Prop where
  ok : FnA P w K mg base 1 f fd ["self"] sp
  hs : PySem.W.findIn K (.ref C) "__repr__" = some (some (.ref f))
  hf : PySem.W.isFn K (.ref f) = true
  b : Binds K fd ["self"] []
/-- the promise of Ratio's own repr -/
def spRepr (C : Addr) : Sp := fun vs H Q _ => ∃ (a dx : Addr) (n m : Int), vs = [.ref a] ∧ H a = some (.ins C dx (rf n m)) ∧ n.natAbs.log2 < 1900 ∧ m.natAbs.log2 < 1900 ∧ Q (.str (rTxt n m)) H
/-- what can be written -/
def shw : D → Bool
  | .rat n m => decide (n.natAbs.log2 < 1900) && decide (m.natAbs.log2 < 1900)
  | .dic => true
  | d => inner d && (pd d).showable && decide ((pd d).depth ≤ 60) && decide ((txt d).length ≤ 1000000)
def rRepr (C : Addr) : List V → Hp → VK → Prop := fun xs H Q => ∃ (d : D) (v : V), xs = [v] ∧ At C H d v ∧ shw d = true ∧ Q (.str (txt d)) H
theorem RoomH.in1 {k : Nat} {A : Around} (h : RoomH (k + 1) A) : RoomH k A.in1 := ⟨by have := h.dp; show A.depth + 3 * k + 5 < _; omega, by have := h.un; show A.units + 1 + 16 * k + 200 < _; omega⟩
theorem RoomH.mark {k : Nat} {A : Around} (h : RoomH k A) (x : Option Value) : RoomH k (A.mark x) := ⟨h.dp, h.un⟩
theorem call_reprD {X : Cx} {C f : Addr} {fd : FuncData} (T : ReprC X.prog X.w X.K X.mg X.base C f fd (spRepr C)) (hg : X.A.guards = some []) (hr : RoomH 2 X.A) : CallR X (.builtin "repr") (rRepr C) := by
  intro pins s σ H xs us Q I r h
  obtain ⟨d, v, rfl, a, sh, q⟩ := h
  obtain ⟨u, rfl, ru⟩ := vals1 r
  have big : ∀ {n : Nat}, n ≤ 1000000 → n ≤ sizeLine := fun h => Nat.le_trans h (by rw [sizeLine_eq]; decide)
  cases d with
  | rat n m =>
    obtain ⟨p, dx, rfl, hp⟩ := a
    obtain rfl : u = Value.ref p := ru
    have sh' : (decide (n.natAbs.log2 < 1900) && decide (m.natAbs.log2 < 1900)) = true := sh
    rw [Bool.and_eq_true, decide_eq_true_eq, decide_eq_true_eq] at sh'
    obtain ⟨od, J⟩ := inst_of I hp
    obtain ⟨mm, hF⟩ := I.fr
    refine PySem.W.repr_K (by have := hr.un; show X.A.units + 1 < cLine; omega) hF I.ok.mod.kin J T.hs T.hf ?_
    refine thn (run_any (A := X.A.in1) (E := E0) (us := [.ref p]) (vs := [.ref p]) T.ok (RoomH.in1 hr) I.ok.frames T.b I (.cons rfl .nil) (Q := fun v H' => v = .str (rTxt n m) ∧ Q v H') ⟨p, dx, n, m, rfl, hp, sh'.1, sh'.2, rfl, q⟩) fun u s' hh => ?_
    obtain ⟨v, H', I', rv, rfl, q'⟩ := hh
    obtain ⟨t, rfl⟩ := rv
    exact ⟨.str (rTxt n m), H', I', ⟨t, rfl⟩, q'⟩
  | dic =>
    obtain ⟨p, rfl, hp⟩ := a
    obtain rfl : u = Value.ref p := ru
    obtain ⟨rd, ne⟩ := dic_reads I hp
    exact repr_of_reads' rd rfl (fun _ z => ne (List.mem_singleton.mp z).symm) hg (by have := hr.un; show X.A.units + (1 + 1) < cLine; omega) (fun _ _ e => e) (fun h' t tk k => ⟨.str _, H, I.kept k, ⟨_, rfl⟩, q⟩) (big (by decide +kernel))
  | non =>
    obtain rfl : v = .non := a
    obtain rfl : u = Value.none := ru
    exact PySem.P.repr_of_none ⟨.str _, H, I.tok _, ⟨_, rfl⟩, q⟩
  | bl b =>
    obtain rfl : v = .bl b := a
    obtain rfl : u = Value.bool b := ru
    exact PySem.P.repr_of_bool ⟨.str _, H, I.tok _, ⟨_, rfl⟩, q⟩
  | int i =>
    obtain rfl : v = .int i := a
    obtain ⟨t, rfl⟩ := ru
    have sh' : (true && decide (i.natAbs.log2 < 1920) && decide ((pd (.int i)).depth ≤ 60) && decide ((txt (.int i)).length ≤ 1000000)) = true := sh
    rw [Bool.and_eq_true, Bool.and_eq_true, Bool.true_and, decide_eq_true_eq] at sh'
    exact PySem.P.repr_of_int sh'.1.1 ⟨.str _, H, I.tok _, ⟨_, rfl⟩, q⟩
  | str x =>
    obtain rfl : v = .str x := a
    obtain ⟨t, rfl⟩ := ru
    have sh' : (true && true && decide ((pd (.str x)).depth ≤ 60) && decide ((reprText x).length ≤ 1000000)) = true := sh
    rw [Bool.and_eq_true, decide_eq_true_eq] at sh'
    exact PySem.P.repr_of_str ⟨.str _, H, I.tok _, ⟨_, rfl⟩, q⟩ (big sh'.2)
  | lst l =>
    have sh' : (inner (.lst l) && (pd (.lst l)).showable && decide ((pd (.lst l)).depth ≤ 60) && decide ((txt (.lst l)).length ≤ 1000000)) = true := sh
    rw [Bool.and_eq_true, Bool.and_eq_true, Bool.and_eq_true, decide_eq_true_eq, decide_eq_true_eq] at sh'
    obtain ⟨⟨⟨s1, s2⟩, s3⟩, s4⟩ := sh'
    obtain ⟨as, rd⟩ := At.reads I _ _ _ s1 a ru
    obtain ⟨p, xs, rfl, _, _⟩ := a
    obtain rfl : u = Value.ref p := ru
    rw [← shown_pd _ s1] at q s4
    exact repr_of_reads' rd s2 (PyData.noDict_hsm (inner_dict _ s1)) hg (by have := hr.un; omega) (fun _ _ e => e) (fun h' t tk k => ⟨.str _, H, I.kept k, ⟨_, rfl⟩, q⟩) (big s4)
  | tup l =>
    have sh' : (inner (.tup l) && (pd (.tup l)).showable && decide ((pd (.tup l)).depth ≤ 60) && decide ((txt (.tup l)).length ≤ 1000000)) = true := sh
    rw [Bool.and_eq_true, Bool.and_eq_true, Bool.and_eq_true, decide_eq_true_eq, decide_eq_true_eq] at sh'
    obtain ⟨⟨⟨s1, s2⟩, s3⟩, s4⟩ := sh'
    obtain ⟨as, rd⟩ := At.reads I _ _ _ s1 a ru
    obtain ⟨p, xs, rfl, _, _⟩ := a
    obtain rfl : u = Value.ref p := ru
    rw [← shown_pd _ s1] at q s4
    exact repr_of_reads' rd s2 (PyData.noDict_hsm (inner_dict _ s1)) hg (by have := hr.un; omega) (fun _ _ e => e) (fun h' t tk k => ⟨.str _, H, I.kept k, ⟨_, rfl⟩, q⟩) (big s4)
end Fu

/-! isinstance of a caught error that has fields. -/
namespace Fu
open PySem L2
open PyProof.Rows hiding St
/-- isinstance(e, c), e the error that the suite holds at a (class cls, dict d) -/
def rIsX (K : PySem.W.Frag) (D a : Addr) (cls : Value) (d : Option Addr) : List V → Hp → VK → Prop := fun xs H Q => ∃ (c : V) (cv : Value) (b : Bool) (dd : Addr) (fs : List (Str × V)), xs = [.ref a, c] ∧ ClsV c cv ∧ cls = .ref D ∧ d = some dd ∧ H dd = some (.xd fs) ∧
  PySem.W.kitOne K (.ref D) cv = some b ∧ Q (.bl b) H
theorem call_isX {X : Cx} {a D : Addr} {oe : Obj} {cls : Value} {d : Option Addr} {pn : List (Addr × Obj)} (T : ExcC X.K D) (hz : Zc cls d oe) (hf : ∃ vs, oe.data = .fields vs) : CallR (X.suite a ((a, oe) :: pn)) (.builtin "isinstance") (rIsX X.K D a cls d) := by
  intro pins s σ H xs us Q I r h
  obtain ⟨c, cv, b, dd, fs, rfl, hc, rfl, rfl, hd, e, q⟩ := h
  obtain ⟨u, t, rfl, ru, rt⟩ := vals2 r
  obtain rfl : u = Value.ref a := ru
  have ec := hc.eq rt
  subst ec
  have ha := (I.pin (a, oe) (List.mem_append_left _ List.mem_cons_self)).1
  obtain ⟨vs, hv⟩ := hf
  obtain ⟨mA, hns, _⟩ := (show ObjOk X.prog X.w H s.heap dd (.xd fs) from I.hok dd _ hd)
  obtain ⟨od, ho, _⟩ := lookIn_ns hns
  have J : PySem.W.InstAt s.heap a oe D (some od) := ⟨ha, hz.1, by unfold PySem.W.notCls; rw [hv] <;> rfl, by rw [hz.2]; exact ho⟩
  have hcl : (PySem.W.clsIn X.K D).isSome = true := by
    obtain ⟨cd, hc, _⟩ := PySem.W.any_some T.hd
    rw [hc]
    rfl
  exact PySem.W.kia_one (PySem.W.kitx_exc hcl T.hg T.hk T.hs T.ha T.hn T.ht T.hm) I.kIn J e (fun z => nomatch z) fun tk => ⟨.bl b, H, I.kept (t' := tk) fun _ _ z => z, rfl, q⟩
end Fu

/-! x != y by an own __eq__; y == x, y a built-in's value, x an own instance. -/
namespace PySem.W
open PySem PySem.Calls PyProof.Rows Builtin
section
variable {prog : Program} {w : World} {A : Around} {E : Value → Shared → Prop} {s : Shared} {K : Frag} {x C L f : Addr} {h₀ : Heap} {m : Str → Option Value} {ox : Obj} {od : Option Obj} {b tb : Value}
/-- a rich comparison by what the left one answers -/
theorem fu_left {op : CmpOp} {Q : Value → Shared → Prop} (hu : A.units < cLine) (X : K.In s.heap) (I : InstAt s.heap x ox C od) (hb : Looks (model prog w) s.heap (typeOf b) tb) (hn : notFirst K C tb = true)
    (one : wpAny (model prog w) A (tryCompare (.ref x) (cmpInfo op).2.1 b) (fun r s' => ∃ v, r = some v ∧ Q v s') E s) : wpAny (model prog w) A (richCompare op (.ref x) b) Q E s := by
  have fin : ∀ (r : Option Value) (s' : Shared) (k : Sem Value), (∃ v, r = some v ∧ Q v s') → wpAny (model prog w) A (match r with | some v => pure v | none => k) Q E s' := by
    rintro r s' k ⟨v, rfl, q⟩
    exact wpAny_pure q
  unfold richCompare
  simp only [oneThing_ref]
  refine wpAny_holding (wpAny_bind (wpAny_cRoomFor hu (wpAny_bind (I.type.here (wpAny_bind (hb.here ?_))))))
  by_cases e : (Value.ref C != tb) = true
  · rw [if_pos e]
    have e2 : subIn K tb (.ref C) = some false := by
      rcases Bool.or_eq_true_iff.mp hn with z | z
      · rw [beq_iff_eq.mp z] at e
        simp at e
      · exact beq_iff_eq.mp z
    refine wpAny_bind ((looks_subIn X e2).here ?_)
    simp only [Bool.false_eq_true, if_false]
    refine wpAny_bind (wpAny_mono one (fun r s' z => ?_) fun _ _ e => e)
    obtain ⟨v, rfl, q⟩ := z
    exact wpAny_pure q
  · rw [if_neg e]
    refine wpAny_bind (wpAny_pure ?_)
    simp only [Bool.false_eq_true, if_false]
    refine wpAny_bind (wpAny_mono one (fun r s' z => ?_) fun _ _ e => e)
    obtain ⟨v, rfl, q⟩ := z
    exact wpAny_pure q
theorem fu_neBind (self : Value) : bindSpecial (.builtin "object.__ne__") self = pure (.builtin "object.__ne__", [self]) :=
  (Slot.of (T := "object") (name := "__ne__") (owner := "object") (n := "__ne__") (by rw [typeLookup_type, builtinLookup_eq_fast]; kernel_rfl) (by decide +kernel) (by decide +kernel) (by decide +kernel) (.inl (by decide +kernel)) (by rw [isSubtype_type]; kernel_rfl)).bind self
theorem fu_nePlain : plainId "object.__ne__" = true := by decide +kernel
/-- x != b by x's own __eq__, that answers a truth value -/
theorem fu_ne {Q : Value → Shared → Prop} (hu : A.in1.units < cLine) (X : K.In s.heap) (I : InstAt s.heap x ox C od) (hb : Looks (model prog w) s.heap (typeOf b) tb) (hn : notFirst K C tb = true) (hm : mroIn K C (.type "object") = some true)
    (hne : findIn K (.ref C) "__ne__" = some (some (.builtin "object.__ne__"))) (hs : findIn K (.ref C) "__eq__" = some (some (.ref f))) (hf : isFn K (.ref f) = true)
    (h : wpAny (model prog w) A.in1 (call (.ref f) [.ref x, b]) (fun v s' => ∃ c, v = .bool c ∧ Q (.bool (!c)) s') E s) : wpAny (model prog w) A (richCompare .NotEq (.ref x) b) Q E s := by
  refine fu_left (op := .NotEq) (by have : A.units + 1 < cLine := hu; omega) X I hb hn ?_
  unfold tryCompare
  have sub : Looks (model prog w) s.heap (isInstance (.ref x) (.type "object")) true := I.type.andThen (looks_mroIn X hm)
  have core : wpAny (model prog w) A (call (.builtin "object.__ne__") [.ref x, b]) (fun v s' => ∃ c, v = .bool c ∧ Q v s') E s := by
    refine wpAny_call (codeAny_call_builtin fu_nePlain PySem.F.cmpEntry_ne (@check_slot (model prog w) _ _ s "object.__ne__" "object" "__ne__" (.ref x) [b] [] _ PySem.F.cmpKind_ne PySem.F.cmpSplit_ne sub (PySem.F.cmpArgs_ne _ _) ?_))
    unfold Builtin.«object.__ne__»
    refine wpAny_bind (wpAny_of_eq (a := ((Value.ref x : Value), [b])) (by first | rfl | (simp only [slotArgs]; rfl)) ?_)
    refine wpAny_bind (wpAny_cRoomFor hu (wpAny_bind (ifBound_K X I hs hf (wpAny_mono h (fun v s' z => ?_) fun _ _ e => e))))
    obtain ⟨c, rfl, q⟩ := z
    show wpAny _ _ (truthy (.bool c) >>= fun r => ret (.bool (!r))) _ _ _
    exact wpAny_bind (wpAny_truthy_bool (wpAny_pure ⟨_, rfl, q⟩))
  refine wpAny_bind ?_
  simp only [callSpecialIfBound?, bindSpecialIfBound?]
  refine wpAny_holding (wpAny_bind (wpAny_bind (wpAny_bind (I.type.here ((looks_findIn X hne).here ?_)))))
  simp only [fu_neBind]
  refine wpAny_bind (wpAny_askSetting (wpAny_ite ?_))
  have fin : wpAny (model prog w) A (call (.builtin "object.__ne__") ([.ref x] ++ [b]) >>= fun v => pure (some v)) (fun r s₁ => wpAny (model prog w) A (match r with | some .notImplemented => pure none | none => pure none | some v => pure (some v)) (fun r s' => ∃ v, r = some v ∧ Q v s') E s₁) E s := by
    refine wpAny_bind (wpAny_mono core (fun v s' z => ?_) fun _ _ e => e)
    obtain ⟨c, rfl, q⟩ := z
    exact wpAny_pure (wpAny_pure ⟨_, rfl, q⟩)
  split
  · exact wpAny_bind (wpAny_pure (wpAny_pure fin))
  · exact wpAny_tryCatch (wpAny_bind (wpAny_pure (wpAny_pure fin)))
/-- a rich comparison of a built-in's value with an own instance, by what the instance answers -/
theorem fu_right {op : CmpOp} {a : Value} {T i : String} {Q : Value → Shared → Prop} (hu : A.units < cLine) (X : K.In s.heap) (I : InstAt s.heap x ox C od) (ha : s.TypeIs a T) (S : Slot T (cmpInfo op).2.1 i) (hm : mroIn K C (.type T) = some false)
    (hc : ∀ Q' : Value → Shared → Prop, Q' .notImplemented s → wpAny (model prog w) A (call (.builtin i) [a, .ref x]) Q' E s) (hs : findIn K (.ref C) (cmpInfo op).2.2 = some (some (.ref f))) (hf : isFn K (.ref f) = true)
    (h : wpAny (model prog w) A (call (.ref f) [.ref x, a]) (CmpBack Q) E s) : wpAny (model prog w) A (richCompare op a (.ref x)) Q E s := by
  have one : wpAny (model prog w) A (tryCompare (.ref x) (cmpInfo op).2.2 a) (fun r s' => ∃ v, r = some v ∧ Q v s') E s := by
    unfold tryCompare
    refine wpAny_bind (ifBound_K X I hs hf (wpAny_mono h (fun v s' hv => ?_) fun _ _ e => e))
    cases v <;> first | exact hv.elim | exact wpAny_pure ⟨_, rfl, hv⟩
  unfold richCompare
  simp only [ha.oneThing_none]
  refine wpAny_holding (wpAny_bind (wpAny_cRoomFor hu (wpAny_bind (wpAny_typeOf ha (wpAny_bind (I.type.here ?_))))))
  rw [if_pos (show (Value.type T != Value.ref C) = true from rfl)]
  refine wpAny_bind ((looks_mroIn X hm).here ?_)
  simp only [Bool.false_eq_true, if_false, Bool.not_false, if_true]
  refine wpAny_bind (m := tryCompare a _ (.ref x)) (wpAny_tryCompare_declines ha S (hc _ ⟨rfl, ?_⟩))
  refine wpAny_bind (wpAny_mono one (fun r s' z => ?_) fun _ _ e => e)
  obtain ⟨v, rfl, q⟩ := z
  exact wpAny_pure q
end
end PySem.W

/-! What the built-ins' own == answers of an own instance: NotImplemented. -/
namespace PySem.W
open PySem PySem.Calls PyProof.Rows Builtin
section
variable {prog : Program} {w : World} {A : Around} {E : Value → Shared → Prop} {s : Shared} {K : Frag} {x C dx l : Addr} {Q : Value → Shared → Prop}
theorem fu_dBool {b : Bool} (hx : s.heap.get? x = some (instObj C dx)) (h : Q .notImplemented s) : wpAny (model prog w) A (call (.builtin "int.__eq__") [.bool b, .ref x]) Q E s := by
  refine GQ.call_here PySem.F.slot_bool_eq rfl PySem.F.entry_int_eq (PySem.F.args_int_eq_2 _ _) ?_
  obtain ⟨hp, g, d, tk, os⟩ := s
  wp_walk using wpAny_loadPart' hx
  exact h
theorem fu_dInt {i : Int} {t : Tok} (hx : s.heap.get? x = some (instObj C dx)) (h : Q .notImplemented s) : wpAny (model prog w) A (call (.builtin "int.__eq__") [.int i t, .ref x]) Q E s := by
  refine GQ.call_here PySem.F.slot_int_eq (typeIs_int s i t) PySem.F.entry_int_eq (PySem.F.args_int_eq_2 _ _) ?_
  obtain ⟨hp, g, d, tk, os⟩ := s
  wp_walk using wpAny_loadPart' hx
  exact h
theorem fu_dNone (h : Q .notImplemented s) : wpAny (model prog w) A (call (.builtin "NoneType.__eq__") [.none, .ref x]) Q E s :=
  call_gives PySem.F.slot_NoneType_eq rfl PySem.F.entry_NoneType_eq (PySem.F.args_NoneType_eq_2 _ _) (SeqAt.NoneType___eq___none_ref_0 x) h
theorem fu_dStr {z : Str} {t : Tok} (hx : s.heap.get? x = some (instObj C dx)) (h : Q .notImplemented s) : wpAny (model prog w) A (call (.builtin "str.__eq__") [.str z t, .ref x]) Q E s := by
  refine GQ.call_here PySem.F.slot_str_eq (typeIs_str s z t) PySem.F.entry_str_eq (PySem.F.args_str_eq_2 _ _) ?_
  obtain ⟨hp, g, d, tk, os⟩ := s
  wp_walk using wpAny_loadPart' hx
  exact h
theorem fu_dList {o : Obj} (hl : s.heap.get? l = some o) (hc : o.cls = .type "list") (hi : Looks (model prog w) s.heap (isInstance (.ref x) (.type "list")) false) (h : Q .notImplemented s) : wpAny (model prog w) A (call (.builtin "list.__eq__") [.ref l, .ref x]) Q E s := by
  refine GQ.call_here PySem.F.slot_list_eq ⟨o, hl, hc⟩ PySem.F.entry_list_eq (PySem.F.args_list_eq_2 _ _) ?_
  unfold Builtin.«list.__eq__»
  refine wpAny_bind (wpAny_of_eq (a := ((Value.ref l : Value), [Value.ref x])) (by first | rfl | (simp only [slotArgs]; rfl)) ?_)
  refine wpAny_bind (hi.here ?_)
  exact wpAny_pure h
theorem fu_dTup {o : Obj} (hl : s.heap.get? l = some o) (hc : o.cls = .type "tuple") (hi : Looks (model prog w) s.heap (isInstance (.ref x) (.type "tuple")) false) (h : Q .notImplemented s) : wpAny (model prog w) A (call (.builtin "tuple.__eq__") [.ref l, .ref x]) Q E s := by
  refine GQ.call_here PySem.F.slot_tuple_eq ⟨o, hl, hc⟩ PySem.F.entry_tuple_eq (PySem.F.args_tuple_eq_2 _ _) ?_
  unfold Builtin.«tuple.__eq__»
  refine wpAny_bind (wpAny_of_eq (a := ((Value.ref l : Value), [Value.ref x])) (by first | rfl | (simp only [slotArgs]; rfl)) ?_)
  refine wpAny_bind (hi.here ?_)
  exact wpAny_pure h
theorem fu_dDict {o : Obj} (hl : s.heap.get? l = some o) (hc : o.cls = .type "dict") (hi : Looks (model prog w) s.heap (isInstance (.ref x) (.type "dict")) false) (h : Q .notImplemented s) : wpAny (model prog w) A (call (.builtin "dict.__eq__") [.ref l, .ref x]) Q E s := by
  refine GQ.call_here PySem.F.slot_dict_eq ⟨o, hl, hc⟩ PySem.F.entry_dict_eq (PySem.F.args_dict_eq_2 _ _) ?_
  unfold Builtin.«dict.__eq__»
  refine wpAny_bind (wpAny_of_eq (a := ((Value.ref l : Value), (Value.ref x : Value))) (by first | rfl | (simp only [Builtin.Dict.dictSlotArgs, slotArgs]; rfl)) ?_)
  refine wpAny_bind (hi.here ?_)
  exact wpAny_bind (wpAny_rule (wpAny_pure h))
end
end PySem.W
namespace Fu
open PySem L2
open PyProof.Rows hiding St
/-- a callee that lets nothing out, run at another place of the same frame -/
theorem run_at {X : Cx} {A : Around} {k : Nat} {f : Addr} {fd : FuncData} {ps : List Str} {sp : Sp} {pins : List (Addr × Obj)} {σ : St} {H : Hp} {s : Shared} {Q : VK} {E : XK} {us : List Value} {vs : List V} (F : FnOk X.prog X.w X.K X.mg X.base CX0 k f fd ps sp)
    (hr : Room k A) (hf : A.frames = some X.stack) (hb : Binds X.K fd ps []) (I : Inv X pins σ H s) (r : Vals vs us) (h : sp vs H Q E) : wpAny (model X.prog X.w) A (call (.ref f) us) (EP X pins σ Q) X.xe s := by
  have e := I.env0
  have b := hb s us I.kIn (by rw [List.append_nil, ← r.length]; exact F.len _ _ _ _ h)
  rw [List.append_nil] at b
  refine wpAny_call (codeAny_mono (F.run A X.stack s H ⟨us, []⟩ us vs Q E hr ⟨hf, e.mod, e.bs, e.bsz, e.funs, e.frf, e.hok, e.bare⟩ b r h) fun z s' hq => ?_)
  cases z with
  | error e => cases hq
  | ok fl =>
    cases fl with
    | ret u => exact I.after hq
    | next => cases hq
    | brk => cases hq
    | cont => cases hq
section
variable {X : Cx} {k : Nat} {f C : Addr} {fd : FuncData} {ps : List Str} {sp : Sp}
/-- x != y, x an own instance with an own __eq__ -/
def rNeOwn (K : PySem.W.Frag) (C : Addr) (sp : Sp) : R2 := fun x y H Q => ∃ a dx fs t, x = .ref a ∧ H a = some (.ins C dx fs) ∧ TyX K H y t ∧ PySem.W.notFirst K C t = true ∧ sp [.ref a, y] H (fun v H' => ∃ c, v = .bl c ∧ Q (.bl (!c)) H') E0
theorem op_neOwn (F : FnOk X.prog X.w X.K X.mg X.base CX0 k f fd ps sp) (hr : Room (k + 1) X.A) (hm : PySem.W.mroIn X.K C (.type "object") = some true) (hne : PySem.W.findIn X.K (.ref C) "__ne__" = some (some (.builtin "object.__ne__")))
    (hs : PySem.W.findIn X.K (.ref C) "__eq__" = some (some (.ref f))) (hf : PySem.W.isFn X.K (.ref f) = true) (hb : Binds X.K fd ps []) : OpR X (compareOp .NotEq) (rNeOwn X.K C sp) := by
  intro pins s σ H x y u v Q I rx ry h
  obtain ⟨a, dx, fs, t, rfl, ha, ty, hn, q⟩ := h
  obtain rfl : u = Value.ref a := rx
  obtain ⟨od, J⟩ := inst_of I ha
  obtain ⟨P, Z, p, _⟩ := kit_of I ry ty
  show wpAny _ _ (richCompare .NotEq (.ref a) v) _ _ _
  refine PySem.W.fu_ne (by have := hr.un; show X.A.units + 1 < cLine; omega) I.kIn J (Z.ty _ _ I.kIn p) hn hm hne hs hf ?_
  refine thn (run_at (A := X.A.in1) (E := E0) (us := [.ref a, v]) (vs := [.ref a, y]) F hr.in1 I.ok.frames hb I (.cons rfl (.cons ry .nil)) q) fun z s' hh => ?_
  obtain ⟨v', H', I', rv, c, rfl, q'⟩ := hh
  obtain rfl : z = Value.bool c := rv
  exact ⟨c, rfl, .bl (!c), H', I', rfl, q'⟩
/-- the class is no kind of the built-ins -/
structure NoB (K : PySem.W.Frag) (C : Addr) : Prop where
  m : ∀ T ∈ ["NoneType", "bool", "int", "str", "list", "tuple", "dict"], PySem.W.mroIn K C (.type T) = some false
/-- y == x, y a datum that is no Ratio, x an own instance with an own __eq__ -/
def rEqRefl (C : Addr) (sp : Sp) : R2 := fun y x H Q => ∃ d a dx fs, At C H d y ∧ (∀ n m, d ≠ .rat n m) ∧ x = .ref a ∧ H a = some (.ins C dx fs) ∧ sp [.ref a, y] H Q E0
theorem op_eqRefl (F : FnOk X.prog X.w X.K X.mg X.base CX0 k f fd ps sp) (hr : Room k X.A) (N : NoB X.K C) (hs : PySem.W.findIn X.K (.ref C) "__eq__" = some (some (.ref f))) (hf : PySem.W.isFn X.K (.ref f) = true) (hb : Binds X.K fd ps []) :
    OpR X (compareOp .Eq) (rEqRefl C sp) := by
  intro pins s σ H y x v u Q I ry rx h
  obtain ⟨d, a, dx, fs, ad, nr, rfl, ha, q⟩ := h
  obtain rfl : u = Value.ref a := rx
  obtain ⟨od, J⟩ := inst_of I ha
  have hx := J.1
  have hin : ∀ T, PySem.W.mroIn X.K C (.type T) = some false → PySem.W.Looks (model X.prog X.w) s.heap (isInstance (.ref a) (.type T)) false := fun T h => J.type.andThen (PySem.W.looks_mroIn I.kIn h)
  have back := fun (q : sp [.ref a, y] H Q E0) => thn (run_at (A := X.A) (E := E0) (us := [.ref a, v]) (vs := [.ref a, y]) F hr I.ok.frames hb I (.cons rfl (.cons ry .nil)) q) fun z s' hh => back_of hh
  show wpAny _ _ (richCompare .Eq v (.ref a)) _ _ _
  cases d with
  | rat n m => exact absurd rfl (nr n m)
  | non =>
    obtain rfl : y = .non := ad
    obtain rfl : v = Value.none := ry
    exact PySem.W.fu_right hr.units0 I.kIn J rfl PySem.F.slot_NoneType_eq (N.m _ (by decide)) (fun _ h => PySem.W.fu_dNone h) hs hf (back q)
  | bl b =>
    obtain rfl : y = .bl b := ad
    obtain rfl : v = Value.bool b := ry
    exact PySem.W.fu_right hr.units0 I.kIn J rfl PySem.F.slot_bool_eq (N.m _ (by decide)) (fun _ h => PySem.W.fu_dBool hx h) hs hf (back q)
  | int i =>
    obtain rfl : y = .int i := ad
    obtain ⟨t, rfl⟩ := id ry
    exact PySem.W.fu_right hr.units0 I.kIn J (typeIs_int s i t) PySem.F.slot_int_eq (N.m _ (by decide)) (fun _ h => PySem.W.fu_dInt hx h) hs hf (back q)
  | str z =>
    obtain rfl : y = .str z := ad
    obtain ⟨t, rfl⟩ := id ry
    exact PySem.W.fu_right hr.units0 I.kIn J (typeIs_str s z t) PySem.F.slot_str_eq (N.m _ (by decide)) (fun _ h => PySem.W.fu_dStr hx h) hs hf (back q)
  | lst l =>
    obtain ⟨p, xs, rfl, hp, _⟩ := ad
    obtain rfl : v = Value.ref p := ry
    obtain ⟨_, its, n, _, e⟩ := (show ObjOk X.prog X.w H s.heap p (.lst xs) from I.hok p _ hp)
    exact PySem.W.fu_right hr.units0 I.kIn J ⟨_, e, rfl⟩ PySem.F.slot_list_eq (N.m _ (by decide)) (fun _ h => PySem.W.fu_dList e rfl (hin _ (N.m _ (by decide))) h) hs hf (back q)
  | tup l =>
    obtain ⟨p, xs, rfl, hp, _⟩ := ad
    obtain rfl : v = Value.ref p := ry
    obtain ⟨_, its, _, o, e, hc, _⟩ := (show ObjOk X.prog X.w H s.heap p (.tup xs) from I.hok p _ hp)
    exact PySem.W.fu_right hr.units0 I.kIn J ⟨_, e, hc⟩ PySem.F.slot_tuple_eq (N.m _ (by decide)) (fun _ h => PySem.W.fu_dTup e hc (hin _ (N.m _ (by decide))) h) hs hf (back q)
  | dic =>
    obtain ⟨p, rfl, hp⟩ := ad
    obtain rfl : v = Value.ref p := ry
    obtain ⟨_, _, _, _, o, _, _, e, hc, _⟩ := (show ObjOk X.prog X.w H s.heap p (.dK []) from I.hok p _ hp)
    exact PySem.W.fu_right hr.units0 I.kIn J ⟨_, e, hc.1⟩ PySem.F.slot_dict_eq (N.m _ (by decide)) (fun _ h => PySem.W.fu_dDict e hc.1 (hin _ (N.m _ (by decide))) h) hs hf (back q)
end
end Fu

/-! Operators of own instances: +, -, * on either side of an int, the orders on either side, -x, abs, bool, str. -/
namespace PySem.W
open PySem PySem.Calls PyProof.Rows Builtin
section
variable {prog : Program} {w : World} {A : Around} {E : Value → Shared → Prop} {s : Shared} {K : Frag} {x C dx f : Addr} {ox : Obj} {od : Option Obj} {Q : Value → Shared → Prop}
theorem fu_abs (X : K.In s.heap) (I : InstAt s.heap x ox C od) (hs : findIn K (.ref C) "__abs__" = some (some (.ref f))) (hf : isFn K (.ref f) = true) (h : wpAny (model prog w) A.in1 (call (.ref f) [.ref x]) Q E s) :
    wpAny (model prog w) A (call (.builtin "abs") [.ref x]) Q E s := by
  refine Calls.call_function_entry PyProof.Rows.kind_abs PyProof.Rows.plain_abs PyProof.Rows.entry_abs (PyProof.Rows.args_abs _) ?_
  unfold Builtin.«abs»
  refine wpAny_bind (m := oneArg "abs" _) (wpAny_pure ?_)
  refine wpAny_bind (m := callSpecial? (.ref x) (Str.ofString "__abs__")) (special_fn X I hs (beq_iff_eq.mp hf) (wpAny_mono h (fun r s' hr => ?_) fun _ _ y => y))
  exact wpAny_pure ⟨_, rfl, hr⟩
theorem fu_bool (X : K.In s.heap) (I : InstAt s.heap x ox C od) (hs : findIn K (.ref C) "__bool__" = some (some (.ref f))) (hf : isFn K (.ref f) = true)
    (h : wpAny (model prog w) A.in1.in1 (call (.ref f) [.ref x]) (fun v s' => ∃ c, v = .bool c ∧ Q (.bool c) s') E s) : wpAny (model prog w) A (call (.type "bool") [.ref x]) Q E s := by
  refine callType_newIn PySem.F.called_bool PySem.F.newNe_bool (PySem.F.typeCall_bool_1 _) (PySem.F.newCall_bool_1 _) (fun obj => PySem.F.args_object_init_2 obj _) PySem.F.entry_bool_new
    (S := fun A R s => ∃ (E' : Value → Shared → Prop), (∀ e s', E' e s' → R (.error e) s') ∧ K.In s.heap ∧ InstAt s.heap x ox C od ∧ wpAny (model prog w) A.in1 (call (.ref f) [.ref x]) (fun v s' => ∃ c, v = .bool c ∧ R (.ok (.ret (.bool c))) s') E' s)
    (MeetsIn.of_wp fun A R s hh => ?_) ⟨E, fun _ _ e => e, X, I, wpAny_mono h (fun v s' z => by obtain ⟨c, rfl, q⟩ := z; exact ⟨c, rfl, rfl, q⟩) fun _ _ e => e⟩
  obtain ⟨E', he, X', I', h'⟩ := hh
  obtain ⟨hp, g, d, tk, os⟩ := s
  have f1 := PySem.F.conv_sub_bool
  have tr : ∀ {Q' : Bool → Shared → Prop}, (∀ c s', R (.ok (.ret (.bool c))) s' → Q' c s') → wpAny (model prog w) A.in1 (truthy (.ref x)) Q' (fun e s' => R (.error e) s') ⟨hp, g, d, tk, os⟩ := fun {Q'} kk => by
    unfold truthy
    refine wpAny_bind (m := callSpecial? (.ref x) (Str.ofString "__bool__")) (special_fn X' I' hs (beq_iff_eq.mp hf) (wpAny_mono h' (fun r s' hr => ?_) fun _ _ y => he _ _ y))
    obtain ⟨c, rfl, q⟩ := hr
    exact wpAny_pure (kk c s' q)
  repeat (any_goals (first | assumption | (with_reducible refine tr fun c s' q => ?_) | wp_step))
  all_goals first | exact ⟨_, rfl, q⟩ | exact ⟨_, rfl, by assumption⟩ | skip
theorem fu_str (hu : A.in1.in1.units < cLine) (X : K.In s.heap) (I : InstAt s.heap x ox C od) (hs : findIn K (.ref C) "__str__" = some (some (.ref f))) (hf : isFn K (.ref f) = true)
    (h : wpAny (model prog w) A.in1.in1 (call (.ref f) [.ref x]) (fun v s' => ∃ z t, v = .str z t ∧ Q (.str z t) s') E s) : wpAny (model prog w) A (call (.type "str") [.ref x]) Q E s := by
  refine callType_newIn PySem.F.called_str (by decide) (PySem.F.typeCall_str_1 _) (PySem.F.newCall_str_1 _) (fun obj => PySem.F.args_object_init_2 obj _) PySem.F.entry_str_new
    (S := fun A R s => ∃ (E' : Value → Shared → Prop), (∀ e s', E' e s' → R (.error e) s') ∧ A.in1.units < cLine ∧ K.In s.heap ∧ InstAt s.heap x ox C od ∧ wpAny (model prog w) A.in1 (call (.ref f) [.ref x]) (fun v s' => ∃ z t, v = .str z t ∧ R (.ok (.ret (.str z t))) s') E' s)
    (MeetsIn.of_wp fun A R s hh => ?_) ⟨E, fun _ _ e => e, hu, X, I, wpAny_mono h (fun v s' z => by obtain ⟨c, t, rfl, q⟩ := z; exact ⟨c, t, rfl, typeIs_str _ _ _, q⟩) fun _ _ e => e⟩
  obtain ⟨E', he, hu', X', I', h'⟩ := hh
  rw [str_new_tree]
  refine wpAny_bind (wpAny_pure ?_)
  refine wpAny_bind (wpAny_of_eq isSubtype_str_str ?_)
  refine wpAny_bind ?_
  unfold PySem.Builtin.Str.strOf
  refine wpAny_bind (wpAny_cRoomFor hu' ?_)
  refine wpAny_bind (m := callSpecial? (.ref x) (Str.ofString "__str__")) (special_fn X' I' hs (beq_iff_eq.mp hf) (wpAny_mono h' (fun r s' hr => ?_) fun _ _ y => he _ _ y))
  obtain ⟨c, t, rfl, q⟩ := hr
  exact wpAny_bind (wpAny_pure (wpAny_pure (wpAny_pure ⟨_, rfl, q⟩)))
/-- i op x, i an int, x an own instance with its own reflected method -/
theorem fu_binR {op : Operator} {i : Int} {t : Tok} {id : String} {g : Addr} (X : K.In s.heap) (I : InstAt s.heap x ox C od) (hc : selfFirst K C = true) (S : Slot "int" (PySem.dunder op.info.2) id)
    (h1 : findIn K (.type "int") (PySem.dunder op.info.2) = some (some (.builtin id))) (h2 : findIn K (.type "int") (dunderR op.info.2) = some (some (.builtin id'))) (hq : isSeqSlot (some (.builtin id)) = false)
    (hd : ∀ Q' : Value → Shared → Prop, Q' .notImplemented s → wpAny (model prog w) A (call (.builtin id) [.int i t, .ref x]) Q' E s)
    (hs : findIn K (.ref C) (PySem.dunder op.info.2) = some (some (.ref g))) (hr : findIn K (.ref C) (dunderR op.info.2) = some (some (.ref f))) (hf : isFn K (.ref f) = true) (hsub : subIn K (.ref C) (.type "int") = some false)
    (h : wpAny (model prog w) A (call (.ref f) [.ref x, .int i t]) (CmpBack Q) E s) : wpAny (model prog w) A (binaryOp op (.int i t) (.ref x)) Q E s := by
  obtain ⟨cd, rest, hcd, hm⟩ := ksp_first hc
  rcases hi : op.info with ⟨sym, nm'⟩
  rw [hi] at hs hr h1 h2 S
  dsimp only at hs hr h1 h2 S
  have one := ksp_try X I hr hf h
  obtain ⟨hh, gg, d, tt, os⟩ := s
  have L1 : Looks (model prog w) hh (typeOf (.ref x)) (.ref C) := I.type
  have L3 : Looks (model prog w) hh (fillsNumberSlot (.ref C) nm') true := fills_K X hcd hm hs
  have L4 : Looks (model prog w) hh (fillsNumberSlot (.type "int") nm') true := by
    have z : Looks (model prog w) hh (fillsNumberSlot (.type "int") nm') (((some (Value.builtin id)).isSome && !isSeqSlot (some (.builtin id))) || ((some (Value.builtin id')).isSome && !isSeqSlot (some (.builtin id')))) := ksp_fillsT X h1 h2
    rw [hq] at z
    exact z
  have L5 : Looks (model prog w) hh (isSubtype (.ref C) (.type "int")) false := looks_subIn X hsub
  have L7 : Looks (model prog w) hh (numberSlotInPython (.type "int") nm') false := Looks.of_pure rfl
  have hne : (Value.type "int" == Value.ref C) = false := Bool.eq_false_iff.mpr fun q => by cases beq_iff_eq.mp q
  simp only [binaryOp, hi]
  refine wpAny_holding (wpAny_bind ?_)
  unfold binaryOp1
  refine wpAny_bind (wpAny_typeOf (typeIs_int _ i t) (wpAny_bind (L1.at (wpAny_bind (L4.at ?_)))))
  simp only [hne, Bool.false_eq_true, if_false]
  ksp_lk
  refine wpAny_tryMethod_declines (typeIs_int _ i t) S (hd _ ⟨rfl, ?_⟩)
  ksp_lk
  refine wpAny_mono one (fun r s' hr' => ?_) fun _ _ e => e
  obtain ⟨v, rfl, hq⟩ := hr'
  ksp_lk
  exact hq
theorem fu_dI_add {i : Int} {t : Tok} (hx : s.heap.get? x = some (instObj C dx)) (h : Q .notImplemented s) : wpAny (model prog w) A (call (.builtin "int.__add__") [.int i t, .ref x]) Q E s := by
  refine GQ.call_here PySem.F.slot_int_add (typeIs_int s i t) PySem.F.entry_int_add (PySem.F.args_int_add_2 _ _) ?_
  obtain ⟨hp, g, d, tk, os⟩ := s
  wp_walk using wpAny_loadPart' hx
  exact h
theorem fu_dI_sub {i : Int} {t : Tok} (hx : s.heap.get? x = some (instObj C dx)) (h : Q .notImplemented s) : wpAny (model prog w) A (call (.builtin "int.__sub__") [.int i t, .ref x]) Q E s := by
  refine GQ.call_here PySem.F.slot_int_sub (typeIs_int s i t) PySem.F.entry_int_sub (PySem.F.args_int_sub_2 _ _) ?_
  obtain ⟨hp, g, d, tk, os⟩ := s
  wp_walk using wpAny_loadPart' hx
  exact h
theorem fu_dI_mul {i : Int} {t : Tok} (hx : s.heap.get? x = some (instObj C dx)) (h : Q .notImplemented s) : wpAny (model prog w) A (call (.builtin "int.__mul__") [.int i t, .ref x]) Q E s := by
  refine GQ.call_here PySem.F.slot_int_mul (typeIs_int s i t) PySem.F.entry_int_mul (PySem.F.args_int_mul_2 _ _) ?_
  obtain ⟨hp, g, d, tk, os⟩ := s
  wp_walk using wpAny_loadPart' hx
  exact h
theorem fu_dI_lt {i : Int} {t : Tok} (hx : s.heap.get? x = some (instObj C dx)) (h : Q .notImplemented s) : wpAny (model prog w) A (call (.builtin "int.__lt__") [.int i t, .ref x]) Q E s := by
  refine GQ.call_here PySem.F.slot_int_lt (typeIs_int s i t) PySem.F.entry_int_lt (PySem.F.args_int_lt_2 _ _) ?_
  obtain ⟨hp, g, d, tk, os⟩ := s
  wp_walk using wpAny_loadPart' hx
  exact h
theorem fu_dI_le {i : Int} {t : Tok} (hx : s.heap.get? x = some (instObj C dx)) (h : Q .notImplemented s) : wpAny (model prog w) A (call (.builtin "int.__le__") [.int i t, .ref x]) Q E s := by
  refine GQ.call_here PySem.F.slot_int_le (typeIs_int s i t) PySem.F.entry_int_le (PySem.F.args_int_le_2 _ _) ?_
  obtain ⟨hp, g, d, tk, os⟩ := s
  wp_walk using wpAny_loadPart' hx
  exact h
theorem fu_dI_gt {i : Int} {t : Tok} (hx : s.heap.get? x = some (instObj C dx)) (h : Q .notImplemented s) : wpAny (model prog w) A (call (.builtin "int.__gt__") [.int i t, .ref x]) Q E s := by
  refine GQ.call_here PySem.F.slot_int_gt (typeIs_int s i t) PySem.F.entry_int_gt (PySem.F.args_int_gt_2 _ _) ?_
  obtain ⟨hp, g, d, tk, os⟩ := s
  wp_walk using wpAny_loadPart' hx
  exact h
theorem fu_dI_ge {i : Int} {t : Tok} (hx : s.heap.get? x = some (instObj C dx)) (h : Q .notImplemented s) : wpAny (model prog w) A (call (.builtin "int.__ge__") [.int i t, .ref x]) Q E s := by
  refine GQ.call_here PySem.F.slot_int_ge (typeIs_int s i t) PySem.F.entry_int_ge (PySem.F.args_int_ge_2 _ _) ?_
  obtain ⟨hp, g, d, tk, os⟩ := s
  wp_walk using wpAny_loadPart' hx
  exact h
theorem fu_dI_ne {i : Int} {t : Tok} (hx : s.heap.get? x = some (instObj C dx)) (h : Q .notImplemented s) : wpAny (model prog w) A (call (.builtin "int.__ne__") [.int i t, .ref x]) Q E s := by
  refine GQ.call_here PySem.F.slot_int_ne (typeIs_int s i t) PySem.F.entry_int_ne (PySem.F.args_int_ne_2 _ _) ?_
  obtain ⟨hp, g, d, tk, os⟩ := s
  wp_walk using wpAny_loadPart' hx
  exact h
/-- x.__ne__(b) by object's own, x's __eq__ answers a truth value -/
theorem fu_neTry {b : Value} (hu : A.in1.units < cLine) (X : K.In s.heap) (I : InstAt s.heap x ox C od) (hm : mroIn K C (.type "object") = some true)
    (hne : findIn K (.ref C) "__ne__" = some (some (.builtin "object.__ne__"))) (hs : findIn K (.ref C) "__eq__" = some (some (.ref f))) (hf : isFn K (.ref f) = true)
    (h : wpAny (model prog w) A.in1 (call (.ref f) [.ref x, b]) (fun v s' => ∃ c, v = .bool c ∧ Q (.bool (!c)) s') E s) : wpAny (model prog w) A (tryCompare (.ref x) "__ne__" b) (fun r s' => ∃ v, r = some v ∧ Q v s') E s := by
  unfold tryCompare
  have sub : Looks (model prog w) s.heap (isInstance (.ref x) (.type "object")) true := I.type.andThen (looks_mroIn X hm)
  have core : wpAny (model prog w) A (call (.builtin "object.__ne__") [.ref x, b]) (fun v s' => ∃ c, v = .bool c ∧ Q v s') E s := by
    refine wpAny_call (codeAny_call_builtin fu_nePlain PySem.F.cmpEntry_ne (@check_slot (model prog w) _ _ s "object.__ne__" "object" "__ne__" (.ref x) [b] [] _ PySem.F.cmpKind_ne PySem.F.cmpSplit_ne sub (PySem.F.cmpArgs_ne _ _) ?_))
    unfold Builtin.«object.__ne__»
    refine wpAny_bind (wpAny_of_eq (a := ((Value.ref x : Value), [b])) (by first | rfl | (simp only [slotArgs]; rfl)) ?_)
    refine wpAny_bind (wpAny_cRoomFor hu (wpAny_bind (ifBound_K X I hs hf (wpAny_mono h (fun v s' z => ?_) fun _ _ e => e))))
    obtain ⟨c, rfl, q⟩ := z
    show wpAny _ _ (truthy (.bool c) >>= fun r => ret (.bool (!r))) _ _ _
    exact wpAny_bind (wpAny_truthy_bool (wpAny_pure ⟨_, rfl, q⟩))
  refine wpAny_bind ?_
  simp only [callSpecialIfBound?, bindSpecialIfBound?]
  refine wpAny_holding (wpAny_bind (wpAny_bind (wpAny_bind (I.type.here ((looks_findIn X hne).here ?_)))))
  simp only [fu_neBind]
  refine wpAny_bind (wpAny_askSetting (wpAny_ite ?_))
  have fin : wpAny (model prog w) A (call (.builtin "object.__ne__") ([.ref x] ++ [b]) >>= fun v => pure (some v)) (fun r s₁ => wpAny (model prog w) A (match r with | some .notImplemented => pure none | none => pure none | some v => pure (some v)) (fun r s' => ∃ v, r = some v ∧ Q v s') E s₁) E s := by
    refine wpAny_bind (wpAny_mono core (fun v s' z => ?_) fun _ _ e => e)
    obtain ⟨c, rfl, q⟩ := z
    exact wpAny_pure (wpAny_pure ⟨_, rfl, q⟩)
  split
  · exact wpAny_bind (wpAny_pure (wpAny_pure fin))
  · exact wpAny_tryCatch (wpAny_bind (wpAny_pure (wpAny_pure fin)))
/-- a rich comparison of a built-in's value with an own instance, by what the instance's try answers -/
theorem fu_rightG {op : CmpOp} {a : Value} {T i : String} (hu : A.units < cLine) (X : K.In s.heap) (I : InstAt s.heap x ox C od) (ha : s.TypeIs a T) (S : Slot T (cmpInfo op).2.1 i) (hm : mroIn K C (.type T) = some false)
    (hc : ∀ Q' : Value → Shared → Prop, Q' .notImplemented s → wpAny (model prog w) A (call (.builtin i) [a, .ref x]) Q' E s)
    (one : wpAny (model prog w) A (tryCompare (.ref x) (cmpInfo op).2.2 a) (fun r s' => ∃ v, r = some v ∧ Q v s') E s) : wpAny (model prog w) A (richCompare op a (.ref x)) Q E s := by
  unfold richCompare
  simp only [ha.oneThing_none]
  refine wpAny_holding (wpAny_bind (wpAny_cRoomFor hu (wpAny_bind (wpAny_typeOf ha (wpAny_bind (I.type.here ?_))))))
  rw [if_pos (show (Value.type T != Value.ref C) = true from rfl)]
  refine wpAny_bind ((looks_mroIn X hm).here ?_)
  simp only [Bool.false_eq_true, if_false, Bool.not_false, if_true]
  refine wpAny_bind (m := tryCompare a _ (.ref x)) (wpAny_tryCompare_declines ha S (hc _ ⟨rfl, ?_⟩))
  refine wpAny_bind (wpAny_mono one (fun r s' z => ?_) fun _ _ e => e)
  obtain ⟨v, rfl, q⟩ := z
  exact wpAny_pure q
end
end PySem.W

/-! The same as rules: operators of own instances. -/
namespace Fu
open PySem L2
open PyProof.Rows hiding St
open L2H (RoomH roomH_of)
/-- a statement that is never reached -/
def tNever : TS := fun _ _ _ => False
theorem ps_never {X : Cx} {st : Stmt} : PS X st tNever := ⟨fun pins s σ H D I h => h.elim⟩
theorem pss_never {X : Cx} {st : List Stmt} : PSs X st tNever := ⟨fun pins s σ H D I h => h.elim⟩
/-- the class has a method of that name -/
structure Own (K : PySem.W.Frag) (C : Addr) (x : Str) (f : Addr) : Prop where
  at_ : PySem.W.findIn K (.ref C) x = some (some (.ref f))
  fn : PySem.W.isFn K (.ref f) = true
/-- a + b and its like: the class's method and its reflected one -/
structure OwnB (K : PySem.W.Frag) (C : Addr) (op : Operator) (f g : Addr) : Prop where
  one : Own K C (PySem.dunder op.info.2) f
  refl : Own K C (dunderR op.info.2) g
  sf : PySem.W.selfFirst K C = true
  i1 : ∃ id, PySem.W.findIn K (.type "int") (PySem.dunder op.info.2) = some (some (.builtin id)) ∧ Slot "int" (PySem.dunder op.info.2) id ∧ isSeqSlot (some (.builtin id)) = false ∧
    ∀ (P : Program) (w : World) (A : Around) (E : Value → Shared → Prop) (s : Shared) (x dx : Addr) (i : Int) (t : Tok) (Q : Value → Shared → Prop), s.heap.get? x = some (PySem.W.instObj C dx) → Q .notImplemented s → wpAny (model P w) A (call (.builtin id) [.int i t, .ref x]) Q E s
  i2 : ∃ id, PySem.W.findIn K (.type "int") (dunderR op.info.2) = some (some (.builtin id))
  si : PySem.W.subIn K (.ref C) (.type "int") = some false
section
variable {X : Cx} {k : Nat} {f g C : Addr} {fd fdg : FuncData} {ps : List Str} {sp : Sp}
theorem sub_int {K : PySem.W.Frag} {C : Addr} : PySem.W.subIn K (.type "int") (.ref C) = some false := by with_unfolding_all rfl
/-- x op y, x an own instance, y one of its class or an int -/
def rBin (C : Addr) (sp : Sp) : R2 := fun x y H Q => ∃ a dx fs, x = .ref a ∧ H a = some (.ins C dx fs) ∧ ((∃ i, y = .int i) ∨ ∃ b dy gs, y = .ref b ∧ H b = some (.ins C dy gs)) ∧ sp [x, y] H Q E0
theorem op_bin {op : Operator} (F : FnOk X.prog X.w X.K X.mg X.base CX0 k f fd ps sp) (hr : Room k X.A) (O : OwnB X.K C op f g) (hb : Binds X.K fd ps []) : OpR X (binaryOp op) (rBin C sp) := by
  intro pins s σ H x y u v Q I rx ry h
  obtain ⟨a, dx, fs, rfl, ha, hy, q⟩ := h
  obtain rfl : u = Value.ref a := rx
  obtain ⟨od, J⟩ := inst_of I ha
  obtain ⟨m, hF⟩ := I.fr
  have go : wpAny (model X.prog X.w) X.A (call (.ref f) [.ref a, v]) (PySem.W.CmpBack (EP X pins σ Q)) X.xe s :=
    thn (run_at (A := X.A) (E := E0) (us := [.ref a, v]) (vs := [.ref a, y]) F hr I.ok.frames hb I (.cons rfl (.cons ry .nil)) q) fun z s' hh => back_of hh
  rcases hy with ⟨i, rfl⟩ | ⟨b, dy, gs, rfl, hb'⟩
  · obtain ⟨t, rfl⟩ := ry
    obtain ⟨id, h1, _, _, _⟩ := O.i1
    obtain ⟨id', h2⟩ := O.i2
    exact PySem.W.ksp_binT (T := "int") hF I.ok.mod.kin J rfl O.sf O.one.at_ O.one.fn O.refl.at_ (.inr ⟨_, rfl⟩) h1 h2 sub_int go
  · obtain rfl : v = Value.ref b := ry
    obtain ⟨od', J'⟩ := inst_of I hb'
    exact PySem.W.binop_K hF I.ok.mod.kin J J'.type O.sf O.one.at_ O.one.fn go
/-- i op y, y an own instance -/
def rBinR (C : Addr) (sp : Sp) : R2 := fun x y H Q => ∃ i a dx fs, x = .int i ∧ y = .ref a ∧ H a = some (.ins C dx fs) ∧ sp [y, x] H Q E0
theorem op_binR {op : Operator} (F : FnOk X.prog X.w X.K X.mg X.base CX0 k g fdg ps sp) (hr : Room k X.A) (O : OwnB X.K C op f g) (hb : Binds X.K fdg ps []) : OpR X (binaryOp op) (rBinR C sp) := by
  intro pins s σ H x y u v Q I rx ry h
  obtain ⟨i, a, dx, fs, rfl, rfl, ha, q⟩ := h
  obtain rfl : v = Value.ref a := ry
  obtain ⟨t, rfl⟩ := id rx
  obtain ⟨od, J⟩ := inst_of I ha
  obtain ⟨id1, h1, S, hq, hd⟩ := O.i1
  obtain ⟨id2, h2⟩ := O.i2
  exact PySem.W.fu_binR I.kIn J O.sf S h1 h2 hq (fun Q' q' => hd _ _ _ _ _ _ _ _ _ _ J.1 q') O.one.at_ O.refl.at_ O.refl.fn O.si
    (thn (run_at (A := X.A) (E := E0) (us := [.ref a, .int i t]) (vs := [.ref a, .int i]) F hr I.ok.frames hb I (.cons rfl (.cons rx .nil)) q) fun z s' hh => back_of hh)
/-- i < y and its like, y an own instance: by y's reflected method -/
structure IntC (op : CmpOp) (C : Addr) : Prop where
  ex : ∃ id, Slot "int" (cmpInfo op).2.1 id ∧ ∀ (P : Program) (w : World) (A : Around) (E : Value → Shared → Prop) (s : Shared) (x dx : Addr) (i : Int) (t : Tok) (Q : Value → Shared → Prop), s.heap.get? x = some (PySem.W.instObj C dx) → Q .notImplemented s → wpAny (model P w) A (call (.builtin id) [.int i t, .ref x]) Q E s
theorem intc_lt : IntC .Lt C := ⟨_, PySem.F.slot_int_lt, fun _ _ _ _ _ _ _ _ _ _ hx q => PySem.W.fu_dI_lt hx q⟩
theorem intc_le : IntC .LtE C := ⟨_, PySem.F.slot_int_le, fun _ _ _ _ _ _ _ _ _ _ hx q => PySem.W.fu_dI_le hx q⟩
theorem intc_gt : IntC .Gt C := ⟨_, PySem.F.slot_int_gt, fun _ _ _ _ _ _ _ _ _ _ hx q => PySem.W.fu_dI_gt hx q⟩
theorem intc_ge : IntC .GtE C := ⟨_, PySem.F.slot_int_ge, fun _ _ _ _ _ _ _ _ _ _ hx q => PySem.W.fu_dI_ge hx q⟩
theorem intc_ne : IntC .NotEq C := ⟨_, PySem.F.slot_int_ne, fun _ _ _ _ _ _ _ _ _ _ hx q => PySem.W.fu_dI_ne hx q⟩
theorem intc_eq : IntC .Eq C := ⟨_, PySem.F.slot_int_eq, fun _ _ _ _ _ _ _ _ _ _ hx q => PySem.W.fu_dInt hx q⟩
theorem op_cmpR {op : CmpOp} (Ic : IntC op C) (F : FnOk X.prog X.w X.K X.mg X.base CX0 k f fd ps sp) (hr : Room k X.A) (hm : PySem.W.mroIn X.K C (.type "int") = some false) (O : Own X.K C (cmpInfo op).2.2 f) (hb : Binds X.K fd ps [])
    (ho : ∀ a b, compareOp op a b = richCompare op a b) : OpR X (compareOp op) (rBinR C sp) := by
  intro pins s σ H x y u v Q I rx ry h
  obtain ⟨i, a, dx, fs, rfl, rfl, ha, q⟩ := h
  obtain rfl : v = Value.ref a := ry
  obtain ⟨t, rfl⟩ := id rx
  obtain ⟨od, J⟩ := inst_of I ha
  obtain ⟨id1, S, hd⟩ := Ic.ex
  rw [ho]
  exact PySem.W.fu_right hr.units0 I.kIn J (typeIs_int s i t) S hm (fun Q' q' => hd _ _ _ _ _ _ _ _ _ _ J.1 q') O.at_ O.fn
    (thn (run_at (A := X.A) (E := E0) (us := [.ref a, .int i t]) (vs := [.ref a, .int i]) F hr I.ok.frames hb I (.cons rfl (.cons rx .nil)) q) fun z s' hh => back_of hh)
/-- i != y -/
def rNeR (C : Addr) (sp : Sp) : R2 := fun x y H Q => ∃ i a dx fs, x = .int i ∧ y = .ref a ∧ H a = some (.ins C dx fs) ∧ sp [y, x] H (fun v H' => ∃ c, v = .bl c ∧ Q (.bl (!c)) H') E0
theorem op_neR (F : FnOk X.prog X.w X.K X.mg X.base CX0 k f fd ps sp) (hr : Room (k + 1) X.A) (hi : PySem.W.mroIn X.K C (.type "int") = some false) (hm : PySem.W.mroIn X.K C (.type "object") = some true) (hne : PySem.W.findIn X.K (.ref C) "__ne__" = some (some (.builtin "object.__ne__")))
    (O : Own X.K C "__eq__" f) (hb : Binds X.K fd ps []) : OpR X (compareOp .NotEq) (rNeR C sp) := by
  intro pins s σ H x y u v Q I rx ry h
  obtain ⟨i, a, dx, fs, rfl, rfl, ha, q⟩ := h
  obtain rfl : v = Value.ref a := ry
  obtain ⟨t, rfl⟩ := id rx
  obtain ⟨od, J⟩ := inst_of I ha
  show wpAny _ _ (richCompare .NotEq (.int i t) (.ref a)) _ _ _
  refine PySem.W.fu_rightG (hr.mono (Nat.zero_le _)).units0 I.kIn J (typeIs_int s i t) PySem.F.slot_int_ne hi (fun Q' q' => PySem.W.fu_dI_ne J.1 q') (PySem.W.fu_neTry (by have := hr.un; show X.A.units + 1 < cLine; omega) I.kIn J hm hne O.at_ O.fn ?_)
  refine thn (run_at (A := X.A.in1) (E := E0) (us := [.ref a, .int i t]) (vs := [.ref a, .int i]) F hr.in1 I.ok.frames hb I (.cons rfl (.cons rx .nil)) q) fun z s' hh => ?_
  obtain ⟨v', H', I', rv, c, rfl, q'⟩ := hh
  obtain rfl : z = Value.bool c := rv
  exact ⟨c, rfl, .bl (!c), H', I', rfl, q'⟩
/-- -x -/
def rUnO (C : Addr) (sp : Sp) : V → Hp → VK → Prop := fun x H Q => ∃ a dx fs, x = .ref a ∧ H a = some (.ins C dx fs) ∧ sp [x] H Q E0
theorem un_negO (F : FnOk X.prog X.w X.K X.mg X.base CX0 k f fd ps sp) (hr : Room k X.A) (O : Own X.K C "__neg__" f) (hb : Binds X.K fd ps []) : UnR X (unaryOp .USub) (rUnO C sp) := by
  intro pins s σ H x u Q I rx h
  obtain ⟨a, dx, fs, rfl, ha, q⟩ := h
  obtain rfl : u = Value.ref a := rx
  obtain ⟨od, J⟩ := inst_of I ha
  obtain ⟨m, hF⟩ := I.fr
  exact PySem.W.ksp_neg hF I.ok.mod.kin J O.at_ O.fn (run_at (A := X.A) (E := E0) (us := [.ref a]) (vs := [.ref a]) F hr I.ok.frames hb I (.cons rfl .nil) q)
def rC1O (C : Addr) (sp : Sp) : List V → Hp → VK → Prop := fun xs H Q => ∃ a dx fs, xs = [.ref a] ∧ H a = some (.ins C dx fs) ∧ sp [.ref a] H Q E0
theorem call_absO (F : FnOk X.prog X.w X.K X.mg X.base CX0 k f fd ps sp) (hr : Room (k + 1) X.A) (O : Own X.K C "__abs__" f) (hb : Binds X.K fd ps []) : CallR X (.builtin "abs") (rC1O C sp) := by
  intro pins s σ H xs us Q I r h
  obtain ⟨a, dx, fs, rfl, ha, q⟩ := h
  obtain rfl := Vals.ref1 r
  obtain ⟨od, J⟩ := inst_of I ha
  exact PySem.W.fu_abs I.kIn J O.at_ O.fn (run_at (A := X.A.in1) (E := E0) (us := [.ref a]) (vs := [.ref a]) F hr.in1 I.ok.frames hb I (.cons rfl .nil) q)
/-- bool(x), str(x): the method answers a truth value, a text -/
def rC1B (C : Addr) (sp : Sp) : List V → Hp → VK → Prop := fun xs H Q => ∃ a dx fs, xs = [.ref a] ∧ H a = some (.ins C dx fs) ∧ sp [.ref a] H (fun v H' => ∃ c, v = .bl c ∧ Q (.bl c) H') E0
theorem call_boolO (F : FnOk X.prog X.w X.K X.mg X.base CX0 k f fd ps sp) (hr : Room (k + 2) X.A) (O : Own X.K C "__bool__" f) (hb : Binds X.K fd ps []) : CallR X (.type "bool") (rC1B C sp) := by
  intro pins s σ H xs us Q I r h
  obtain ⟨a, dx, fs, rfl, ha, q⟩ := h
  obtain rfl := Vals.ref1 r
  obtain ⟨od, J⟩ := inst_of I ha
  refine PySem.W.fu_bool I.kIn J O.at_ O.fn (thn (run_at (A := X.A.in1.in1) (E := E0) (us := [.ref a]) (vs := [.ref a]) F hr.in1.in1 I.ok.frames hb I (.cons rfl .nil) q) fun z s' hh => ?_)
  obtain ⟨v', H', I', rv, c, rfl, q'⟩ := hh
  obtain rfl : z = Value.bool c := rv
  exact ⟨c, rfl, .bl c, H', I', rfl, q'⟩
def rC1S (C : Addr) (sp : Sp) : List V → Hp → VK → Prop := fun xs H Q => ∃ a dx fs, xs = [.ref a] ∧ H a = some (.ins C dx fs) ∧ sp [.ref a] H (fun v H' => ∃ c, v = .str c ∧ Q (.str c) H') E0
theorem call_strO (F : FnOk X.prog X.w X.K X.mg X.base CX0 k f fd ps sp) (hr : Room (k + 2) X.A) (O : Own X.K C "__str__" f) (hb : Binds X.K fd ps []) : CallR X (.type "str") (rC1S C sp) := by
  intro pins s σ H xs us Q I r h
  obtain ⟨a, dx, fs, rfl, ha, q⟩ := h
  obtain rfl := Vals.ref1 r
  obtain ⟨od, J⟩ := inst_of I ha
  refine PySem.W.fu_str (by have := hr.un; show X.A.units + 1 + 1 < cLine; omega) I.kIn J O.at_ O.fn (thn (run_at (A := X.A.in1.in1) (E := E0) (us := [.ref a]) (vs := [.ref a]) F hr.in1.in1 I.ok.frames hb I (.cons rfl .nil) q) fun z s' hh => ?_)
  obtain ⟨v', H', I', rv, c, rfl, q'⟩ := hh
  obtain ⟨t, rfl⟩ := rv
  exact ⟨c, t, rfl, .str c, H', I', ⟨t, rfl⟩, q'⟩
end
end Fu

/-! repr of a list of own instances. -/
namespace PySem.W
open PySem PySem.Calls PyProof.Rows Builtin
section
variable {prog : Program} {w : World} {A : Around} {E : Value → Shared → Prop} {s : Shared} {K : Frag} {x C f : Addr} {ox : Obj} {od : Option Obj} {Q : Str → Shared → Prop}
theorem fu_under {b : Nat} (hb : b ≤ sizeLine) (hu : A.units < cLine) (X : K.In s.heap) (I : InstAt s.heap x ox C od) (hs : findIn K (.ref C) "__repr__" = some (some (.ref f))) (hf : isFn K (.ref f) = true)
    (h : wpAny (model prog w) A (call (.ref f) [.ref x]) (fun v s' => ∃ z t, v = .str z t ∧ Q z s') E s) : wpAny (model prog w) A (pyReprUnder b (.ref x)) Q E s := by
  refine wpAny_pyReprUnder_ref hb ?_
  unfold pyReprObjUnder pyReprObjBy
  refine wpAny_bind (wpAny_cRoomFor hu ?_)
  refine wpAny_bind (wpAny_bind (I.type.here ((looks_findIn X hs).here ?_)))
  show wpAny _ _ (if (some (Value.ref f)).isNone = true then _ else _) _ _ _
  rw [if_neg (by simp)]
  refine wpAny_bind ?_
  simp only [callSpecialIfBoundBy?, bindSpecialIfBound?]
  refine wpAny_holding (wpAny_bind (wpAny_bind (wpAny_bind (I.type.here ((looks_findIn X hs).here ?_)))))
  refine wpAny_bind (wpAny_askSetting (wpAny_ite ?_))
  have bnd := bind_fn (M := model prog w) X (.ref x) (beq_iff_eq.mp hf)
  have fin : ∀ {Q2 : Option Value → Shared → Prop}, (∀ v s', (∃ z t, v = Value.str z t ∧ Q z s') → Q2 (some v) s') → wpAny (model prog w) A (call (.ref f) ([.ref x] ++ []) >>= fun v => pure (some v)) Q2 E s := fun kk => wpAny_bind (wpAny_mono h (fun v s' h' => wpAny_pure (kk v s' h')) fun _ _ h' => h')
  split
  · refine wpAny_bind (bnd.here (wpAny_pure ?_))
    refine fin fun v s' z => ?_
    obtain ⟨z, t, rfl, q⟩ := z
    exact wpAny_bind (wpAny_isInstance (typeIs_str _ _ _) isSubtype_str_str (wpAny_pure ⟨z, t, rfl, q⟩))
  · refine wpAny_tryCatch (wpAny_bind (bnd.here (wpAny_pure ?_)))
    refine fin fun v s' z => ?_
    obtain ⟨z, t, rfl, q⟩ := z
    exact wpAny_bind (wpAny_isInstance (typeIs_str _ _ _) isSubtype_str_str (wpAny_pure ⟨z, t, rfl, q⟩))
end
end PySem.W
namespace Fu
open PySem L2
open PyProof.Rows hiding St
open L2H (RoomH roomH_of)
theorem und_un (A : Around) (args : Args) : (A.under (.builtin "list.__repr__.loop" args)).units = A.units + 1 := units_under_list_loop A args
theorem und_dp (A : Around) (args : Args) : (A.under (.builtin "list.__repr__.loop" args)).depth = A.depth + 1 := by
  have e : (Code.builtin "list.__repr__.loop" args).weight = 1 := by
    unfold Code.weight
    rw [isGuard_list_loop]
    rfl
  show A.depth + _ = _
  rw [e]
theorem und_fr (A : Around) (args : Args) : (A.under (.builtin "list.__repr__.loop" args)).frames = A.frames := by
  first | rfl | simp [Around.under, Code.cUnits, Code.frames, Code.isFrame]
theorem und_room {k : Nat} {A : Around} {args : Args} (h : RoomH (k + 1) A) : RoomH k (A.under (.builtin "list.__repr__.loop" args)) := ⟨by have := h.dp; rw [und_dp]; omega, by have := h.un; rw [und_un]; omega⟩
/-- texts in a row -/
theorem strs_of : ∀ {ts : List Str} {its : List Value}, Vals (ts.map V.str) its → ∃ done : List (Str × Tok), its = strValues done ∧ done.map (·.1) = ts
  | [], _, r => by
    cases r
    exact ⟨[], rfl, rfl⟩
  | t :: ts, _, r => by
    cases r with
    | cons r1 r2 =>
      obtain ⟨tk, rfl⟩ := r1
      obtain ⟨done, rfl, e⟩ := strs_of r2
      exact ⟨(t, tk) :: done, rfl, by rw [List.map_cons, e]⟩
section
variable {X : Cx} {pins : List (Addr × Obj)} {σ : St} {C : Addr}
theorem upd_twice {H : Hp} {a : Addr} {o o' : HO} : upd (upd H a o) a o' = upd H a o' := by
  funext b
  by_cases h : b = a
  · subst h
    rw [upd_same, upd_same]
  · rw [upd_ne h, upd_ne h, upd_ne h]
theorem loop_repr {f : Addr} {fd : FuncData} {A : Around} {R : Result → Shared → Prop} {H : Hp} {a p : Addr} {vs : List V} {l : List (Int × Int)} (T : ReprC X.prog X.w X.K X.mg X.base C f fd (spRepr C)) (hr : RoomH 2 A) (hf : A.frames = some X.stack)
    (ha : H a = some (.lst vs)) (hp : H p = none) (hl : vs.length = l.length) (hv : ∀ (i : Nat) (v : V), vs[i]? = some v → ∃ (n m : Int) (b dx : Addr), l[i]? = some (n, m) ∧ v = .ref b ∧ H b = some (.ins C dx (rf n m)) ∧ n.natAbs.log2 < 1900 ∧ m.natAbs.log2 < 1900)
    (hsz : (listText (l.map fun z => rTxt z.1 z.2)).length ≤ sizeLine)
    (hR : ∀ s' H' u, Inv X pins σ H' s' → Same H H' → R (.ok (.ret (.str (listText (l.map fun z => rTxt z.1 z.2)) u))) s') (hE : ∀ e s', X.xe e s' → R (.error e) s') :
    ∀ (k i : Nat) (s : Shared), l.length - i = k → i ≤ l.length → Inv X pins σ (upd H p (.lst (((l.map fun z => rTxt z.1 z.2).take i).map V.str))) s →
      codeAny (model X.prog X.w) A (.builtin "list.__repr__.loop" ⟨[.ref a, rawInt i, .ref p, rawInt ((0 + piled ((l.map fun z => rTxt z.1 z.2).take i) : Nat) : Int)], []⟩) R s := by
  have nap : a ≠ p := ne_of_none ha hp
  generalize hts : (l.map fun z => rTxt z.1 z.2) = ts at *
  have hlt : ts.length = l.length := by rw [← hts, List.length_map]
  have hXl : (listText ts).length = (textFrom 0 "[" ts).length + 1 := by
    unfold listText
    rw [strLen_append]
    rfl
  have hL := textFrom_len ts 0 "["
  have hz1 : ts.length ≤ sizeLine := by
    have h1 := hL.1
    rw [if_neg (Nat.lt_irrefl 0)] at h1
    omega
  have hz2 : ∀ t ∈ ts, t.length ≤ sizeLine := fun t ht => by
    have h2 := hL.2.1 t ht
    omega
  have hp3 := piled_le_listText ts
  intro k
  induction k with
  | zero =>
    intro i s hk hi I
    have hin : i = ts.length := by omega
    subst hin
    obtain ⟨_, its, n, rv, _, e⟩ := I.lstM (l := a) (by rw [upd_ne nap]; exact ha)
    obtain ⟨_, jts, n2, rw2, _, e2⟩ := I.lstM (l := p) upd_same
    rw [List.take_length] at rw2
    obtain ⟨done, rfl, ed⟩ := strs_of rw2
    refine codeAny_builtin PySem.F.entry_list_repr_loop ?_
    have st : ∀ q : Nat, rawInt ((0 + q : Nat) : Int) = Value.int ((0 + q : Nat) : Int) 0 := fun _ => rfl
    show wpAny _ _ (Builtin.«list.__repr__.loop» ⟨[.ref a, .int ((ts.length : Nat) : Int) 0, .ref p, .int _ 0], []⟩) _ _ s
    rw [repr_loop_tree]
    refine wpAny_bind (wpAny_listItems e rfl ?_)
    have hn : its.toArray[((ts.length : Nat) : Int).toNat]? = none := by
      have hlen := rv.length
      simp
      omega
    simp only [hn]
    unfold reprEnd
    refine wpAny_bind (wpAny_listItems e2 rfl ?_)
    rw [show (strValues done).toArray.toList = strValues done by simp, repr_fold]
    refine wpAny_bind (wpAny_pure ?_)
    rw [ed]
    refine wpAny_bind (wpAny_mkStr (wpAny_pure ?_) hsz)
    exact hR _ _ _ (I.tok _) fun b o hb => by
      rw [upd_ne (ne_of_none hb hp)]
      exact hb
  | succ k ih =>
    intro i s hk hi I
    have hil : i < ts.length := by omega
    obtain ⟨_, its, n, rv, elen, e⟩ := I.lstM (l := a) (by rw [upd_ne nap]; exact ha)
    have hiv : i < vs.length := by omega
    have hii : i < its.length := by omega
    have hvv : vs[i]? = some (vs[i]'hiv) := by simp [hiv]
    obtain ⟨nn, mm, b, dx, hli, hvi, hb, l1, l2⟩ := hv i (vs[i]'hiv) hvv
    have hti : ts[i]? = some (rTxt nn mm) := by
      rw [← hts, List.getElem?_map, hli]
      rfl
    obtain ⟨u, hu, ru⟩ := rv.get hvv
    rw [hvi] at ru
    obtain rfl : u = Value.ref b := ru
    have hp1 := piled_take_succ hti
    have hp2 := piled_take_le ts (i + 1)
    refine codeAny_builtin PySem.F.entry_list_repr_loop ?_
    show wpAny _ _ (Builtin.«list.__repr__.loop» ⟨[.ref a, .int ((i : Nat) : Int) 0, .ref p, .int ((0 + piled (ts.take i) : Nat) : Int) 0], []⟩) _ _ s
    rw [repr_loop_tree]
    refine wpAny_bind (wpAny_listItems e rfl ?_)
    have hn : its.toArray[((i : Nat) : Int).toNat]? = some (.ref b) := by
      rw [Int.toNat_natCast]
      simpa using hu
    simp only [hn]
    rw [Int.toNat_natCast]
    have hb1 : (upd H p (.lst ((ts.take i).map V.str))) b = some (.ins C dx (rf nn mm)) := by
      rw [upd_ne (ne_of_none hb hp)]
      exact hb
    obtain ⟨od, J⟩ := inst_of I hb1
    refine wpAny_bind (wpAny_holding (PySem.W.fu_under (by omega) (by rw [und_un]; have := hr.un; omega) I.kIn J T.hs T.hf ?_))
    refine wpAny_mono (run_any (E := E0) (us := [.ref b]) (vs := [.ref b]) T.ok (und_room hr) (by rw [und_fr]; exact hf) T.b I (.cons rfl .nil) (Q := fun v H' => v = .str (rTxt nn mm) ∧ H' = upd H p (.lst ((ts.take i).map V.str))) ⟨b, dx, nn, mm, rfl, hb1, l1, l2, rfl, rfl⟩) (fun z s' hh => ?_) fun e s' q => hE e s' q
    obtain ⟨v', H', I', rv', rfl, rfl⟩ := hh
    obtain ⟨tk, rfl⟩ := rv'
    refine ⟨_, _, rfl, ?_⟩
    refine wpAny_bind (wpAny_mkStr ?_ (hz2 _ (List.mem_of_getElem? hti)))
    refine wpAny_bind ?_
    show wpAny _ _ (updateSeq p _) _ _ _
    have I2 := I'.tok (s'.toks + 1)
    obtain ⟨_, jts, n2, rw2, jl, e2⟩ := I2.lstM (l := p) upd_same
    have hjs : jts.length = i := by
      rw [← jl, List.length_map, List.length_take]
      omega
    refine wpAny_updateSeq e2 rfl (wpAny_pure ⟨PySem.F.quiet_list_repr_loop _, ?_⟩) (by rw [List.size_toArray, hjs]; omega)
    have e3 : ((i : Int) + 1) = ((i + 1 : Nat) : Int) := by omega
    have e4 : 0 + piled (ts.take i) + ((rTxt nn mm).length + 2) = 0 + piled (ts.take (i + 1)) := by omega
    rw [e3, e4]
    refine ih (i + 1) _ (by omega) (by omega) ?_
    have I3 := I2.lset (l := p) (its' := jts ++ [Value.str (rTxt nn mm) s'.toks]) (f := fun xs => xs.push (Value.str (rTxt nn mm) s'.toks)) (t' := s'.toks + 1) upd_same e2 (by simp) (rw2.append (.cons (show RelV (.str (rTxt nn mm)) (Value.str (rTxt nn mm) s'.toks) from ⟨_, rfl⟩) .nil)) (by rw [List.length_append, List.length_map, List.length_take, List.length_singleton]; omega)
    rw [upd_twice] at I3
    have e5 : (ts.take (i + 1)).map V.str = (ts.take i).map V.str ++ [V.str (rTxt nn mm)] := by
      rw [List.take_add_one, hti, List.map_append]
      rfl
    rw [e5]
    exact I3
/-- repr of a list of Ratios -/
def rReprL (C : Addr) : List V → Hp → VK → Prop := fun xs H Q => ∃ (a : Addr) (vs : List V) (l : List (Int × Int)), xs = [.ref a] ∧ vs ≠ [] ∧ H a = some (.lst vs) ∧ vs.length = l.length ∧
  (∀ (i : Nat) (v : V), vs[i]? = some v → ∃ (n m : Int) (b dx : Addr), l[i]? = some (n, m) ∧ v = .ref b ∧ H b = some (.ins C dx (rf n m)) ∧ n.natAbs.log2 < 1900 ∧ m.natAbs.log2 < 1900) ∧
  (listText (l.map fun z => rTxt z.1 z.2)).length ≤ sizeLine ∧ ∀ H', Same H H' → Q (.str (listText (l.map fun z => rTxt z.1 z.2))) H'
theorem call_reprL {f : Addr} {fd : FuncData} (T : ReprC X.prog X.w X.K X.mg X.base C f fd (spRepr C)) (hg : X.A.guards = some []) (hr : RoomH 3 X.A) : CallR X (.builtin "repr") (rReprL C) := by
  intro pins s σ H xs us Q I r h
  obtain ⟨a, vs, l, rfl, hne, ha, hl, hv, hsz, q⟩ := h
  obtain rfl := Vals.ref1 r
  obtain ⟨_, its, n, rv, el, e⟩ := I.lstM ha
  refine call_repr_slot (by have := hr.un; omega) (T := "list") ⟨_, e, rfl⟩ PySem.F.slot_list_repr.toG ?_
  refine wpAny_call (codeAny_call_builtin PySem.F.slot_list_repr.plain PySem.F.entry_list_repr (PySem.F.slot_list_repr.check _ _ _ _ _ _ _ _ ⟨_, e, rfl⟩ (PySem.F.args_list_repr_1 _) ?_))
  obtain ⟨x, rest, rfl⟩ : ∃ x rest, its = x :: rest := by
    cases its with
    | nil =>
      rw [List.length_nil] at el
      exact absurd (List.eq_nil_of_length_eq_zero el) hne
    | cons x rest => exact ⟨x, rest, rfl⟩
  refine wpAny_list_repr_head (A := X.A.in1.in1) (g := []) hg (fun v rest kw hm => nomatch hm) e rfl ?_
  refine wpAny_bind (m := newList []) (wpAny_newObj_type ?_)
  refine wpAny_pure ⟨PySem.F.quiet_list_repr_loop _, ?_⟩
  have I1 := I.lnew (ys := []) (its := []) (t' := s.toks) .nil (Nat.zero_le _)
  refine loop_repr (pins := pins) (σ := σ) (H := H) (p := s.heap.objs.size) (vs := vs) (l := l) T (A := X.A.in1) (RoomH.in1 hr) I.ok.frames ha I.fresh hl hv hsz (fun s' H' u I' sm => ⟨_, _, rfl, .str _, H', I', ⟨_, rfl⟩, q H' sm⟩) (fun e s' z => z) l.length 0 _ rfl (Nat.zero_le _) ?_
  exact I1
end
end Fu

/-! The mirror layer: data as trees, slots that hold data or own a container, how they lie in the abstract heap. -/
namespace Mi
open PySem L2
open PyProof.Rows hiding St

inductive D where
  | non | bl (b : Bool) | int (i : Int) | str (x : Str) | lst (l : List D) | tup (l : List D) | dic (ks : List Key) (l : List D) | rat (q : Rat) | obj (c : Nat) (l : List D)

/-- the classes: Ratio, own classes by number with their fields in order, own errors by number -/
structure Ct where
  K : PySem.W.Frag
  R : Addr
  cls : Nat → Addr
  fld : Nat → List Str
  err : Nat → Addr
  erf : Nat → Option Str

mutual
def At (Γ : Ct) (H : Hp) : D → V → Prop
  | .non, v => v = .non
  | .bl b, v => v = .bl b
  | .int i, v => v = .int i
  | .str x, v => v = .str x
  | .lst l, v => ∃ a xs, v = .ref a ∧ H a = some (.lst xs) ∧ Ats Γ H l xs
  | .tup l, v => ∃ a xs, v = .ref a ∧ H a = some (.tup xs) ∧ Ats Γ H l xs
  | .dic ks l, v => ∃ a kvs, v = .ref a ∧ H a = some (.dK kvs) ∧ kvs.map (·.1) = ks ∧ Ats Γ H l (kvs.map (·.2))
  | .rat q, v => ∃ a dx, v = .ref a ∧ H a = some (.ins Γ.R dx (Fu.rf q.num q.den))
  | .obj c l, v => ∃ a dx fs, v = .ref a ∧ H a = some (.ins (Γ.cls c) dx fs) ∧ fs.map (·.1) = Γ.fld c ∧ Ats Γ H l (fs.map (·.2))
def Ats (Γ : Ct) (H : Hp) : List D → List V → Prop
  | [], xs => xs = []
  | d :: l, xs => ∃ x r, xs = x :: r ∧ At Γ H d x ∧ Ats Γ H l r
end
mutual
theorem At.ex {Γ : Ct} {H H' : Hp} (e : Same H H') : ∀ {d : D} {v : V}, At Γ H d v → At Γ H' d v
  | .non, _, h => h
  | .bl _, _, h => h
  | .int _, _, h => h
  | .str _, _, h => h
  | .lst l, _, h => by
    obtain ⟨a, xs, hv, ha, hs⟩ := h
    exact ⟨a, xs, hv, e _ _ ha, Ats.ex e hs⟩
  | .tup l, _, h => by
    obtain ⟨a, xs, hv, ha, hs⟩ := h
    exact ⟨a, xs, hv, e _ _ ha, Ats.ex e hs⟩
  | .dic ks l, _, h => by
    obtain ⟨a, kvs, hv, ha, hk, hs⟩ := h
    exact ⟨a, kvs, hv, e _ _ ha, hk, Ats.ex e hs⟩
  | .rat q, _, h => by
    obtain ⟨a, dx, hv, ha⟩ := h
    exact ⟨a, dx, hv, e _ _ ha⟩
  | .obj c l, _, h => by
    obtain ⟨a, dx, fs, hv, ha, hk, hs⟩ := h
    exact ⟨a, dx, fs, hv, e _ _ ha, hk, Ats.ex e hs⟩
theorem Ats.ex {Γ : Ct} {H H' : Hp} (e : Same H H') : ∀ {l : List D} {xs : List V}, Ats Γ H l xs → Ats Γ H' l xs
  | [], _, h => h
  | d :: l, _, h => by
    obtain ⟨x, r, hx, h1, h2⟩ := h
    exact ⟨x, r, hx, At.ex e h1, Ats.ex e h2⟩
end
section
variable {Γ : Ct} {H M : Hp}
theorem Ats.len : ∀ {l : List D} {xs : List V}, Ats Γ H l xs → xs.length = l.length
  | [], _, h => by
    obtain rfl := h
    rfl
  | d :: l, _, h => by
    obtain ⟨x, r, rfl, _, h2⟩ := h
    rw [List.length_cons, List.length_cons, h2.len]
theorem Ats.get : ∀ {l : List D} {xs : List V} {i : Nat} {d : D}, Ats Γ H l xs → l[i]? = some d → ∃ x, xs[i]? = some x ∧ At Γ H d x
  | [], _, _, _, _, e => by simp at e
  | d :: l, _, 0, _, h, e => by
    obtain ⟨x, r, rfl, h1, _⟩ := h
    cases e
    exact ⟨x, rfl, h1⟩
  | d :: l, _, i + 1, _, h, e => by
    obtain ⟨x, r, rfl, _, h2⟩ := h
    exact h2.get (i := i) (by simpa using e)
theorem Ats.append : ∀ {l m : List D} {xs ys : List V}, Ats Γ H l xs → Ats Γ H m ys → Ats Γ H (l ++ m) (xs ++ ys)
  | [], _, _, _, h, g => by
    obtain rfl := h
    exact g
  | d :: l, _, _, _, h, g => by
    obtain ⟨x, r, rfl, h1, h2⟩ := h
    exact ⟨x, r ++ _, rfl, h1, h2.append g⟩
theorem Ats.one {d : D} {x : V} (h : At Γ H d x) : Ats Γ H [d] [x] := ⟨x, [], rfl, h, rfl⟩
theorem Ats.set : ∀ {l : List D} {xs : List V} {i : Nat} {d : D} {x : V}, Ats Γ H l xs → At Γ H d x → Ats Γ H (l.set i d) (xs.set i x)
  | [], _, _, _, _, h, _ => by
    obtain rfl := h
    rfl
  | d :: l, _, 0, _, _, h, g => by
    obtain ⟨x, r, rfl, _, h2⟩ := h
    exact ⟨_, r, rfl, g, h2⟩
  | d :: l, _, i + 1, _, _, h, g => by
    obtain ⟨x, r, rfl, h1, h2⟩ := h
    exact ⟨x, _, rfl, h1, h2.set (i := i) g⟩
theorem Ats.take : ∀ {l : List D} {xs : List V} (n : Nat), Ats Γ H l xs → Ats Γ H (l.take n) (xs.take n)
  | _, _, 0, _ => by simp [Ats]
  | [], _, n + 1, h => by
    obtain rfl := h
    simp [Ats]
  | d :: l, _, n + 1, h => by
    obtain ⟨x, r, rfl, h1, h2⟩ := h
    exact ⟨x, r.take n, rfl, h1, h2.take n⟩
theorem Ats.drop : ∀ {l : List D} {xs : List V} (n : Nat), Ats Γ H l xs → Ats Γ H (l.drop n) (xs.drop n)
  | _, _, 0, h => h
  | [], _, n + 1, h => by
    obtain rfl := h
    simp [Ats]
  | d :: l, _, n + 1, h => by
    obtain ⟨x, r, rfl, h1, h2⟩ := h
    exact h2.drop n
end

/-- the top object in H, its parts in M -/
def AtT (Γ : Ct) (H M : Hp) : D → V → Prop
  | .non, v => v = .non
  | .bl b, v => v = .bl b
  | .int i, v => v = .int i
  | .str x, v => v = .str x
  | .lst l, v => ∃ a xs, v = .ref a ∧ H a = some (.lst xs) ∧ Ats Γ M l xs
  | .tup l, v => ∃ a xs, v = .ref a ∧ H a = some (.tup xs) ∧ Ats Γ M l xs
  | .dic ks l, v => ∃ a kvs, v = .ref a ∧ H a = some (.dK kvs) ∧ kvs.map (·.1) = ks ∧ Ats Γ M l (kvs.map (·.2))
  | .rat q, v => ∃ a dx, v = .ref a ∧ H a = some (.ins Γ.R dx (Fu.rf q.num q.den))
  | .obj c l, v => ∃ a dx fs, v = .ref a ∧ H a = some (.ins (Γ.cls c) dx fs) ∧ fs.map (·.1) = Γ.fld c ∧ Ats Γ M l (fs.map (·.2))
section
variable {Γ : Ct} {H M : Hp}
theorem At.top (e : Same M H) : ∀ {d : D} {v : V}, At Γ M d v → AtT Γ H M d v
  | .non, _, h => h
  | .bl _, _, h => h
  | .int _, _, h => h
  | .str _, _, h => h
  | .lst l, _, h => by
    obtain ⟨a, xs, hv, ha, hs⟩ := h
    exact ⟨a, xs, hv, e _ _ ha, hs⟩
  | .tup l, _, h => by
    obtain ⟨a, xs, hv, ha, hs⟩ := h
    exact ⟨a, xs, hv, e _ _ ha, hs⟩
  | .dic ks l, _, h => by
    obtain ⟨a, kvs, hv, ha, hk, hs⟩ := h
    exact ⟨a, kvs, hv, e _ _ ha, hk, hs⟩
  | .rat q, _, h => by
    obtain ⟨a, dx, hv, ha⟩ := h
    exact ⟨a, dx, hv, e _ _ ha⟩
  | .obj c l, _, h => by
    obtain ⟨a, dx, fs, hv, ha, hk, hs⟩ := h
    exact ⟨a, dx, fs, hv, e _ _ ha, hk, hs⟩
theorem AtT.at_ (e : Same M H) : ∀ {d : D} {v : V}, AtT Γ H M d v → At Γ H d v
  | .non, _, h => h
  | .bl _, _, h => h
  | .int _, _, h => h
  | .str _, _, h => h
  | .lst l, _, h => by
    obtain ⟨a, xs, hv, ha, hs⟩ := h
    exact ⟨a, xs, hv, ha, hs.ex e⟩
  | .tup l, _, h => by
    obtain ⟨a, xs, hv, ha, hs⟩ := h
    exact ⟨a, xs, hv, ha, hs.ex e⟩
  | .dic ks l, _, h => by
    obtain ⟨a, kvs, hv, ha, hk, hs⟩ := h
    exact ⟨a, kvs, hv, ha, hk, hs.ex e⟩
  | .rat q, _, h => h
  | .obj c l, _, h => by
    obtain ⟨a, dx, fs, hv, ha, hk, hs⟩ := h
    exact ⟨a, dx, fs, hv, ha, hk, hs.ex e⟩
end

/-- a slot: nothing known; a datum, shared; a container that this slot alone holds (t: 0, or parameter t - 1 lent by the caller); an object under construction; the script; (of a value) what slot i holds; (while a loop runs) a shared object as it is -/
inductive Sl where
  | no | va (d : D) | ow (t : Nat) (d : D) | ob (t c : Nat) (l : List D) | sc (ns : List Int) | rf (i : Nat) | hd (o : HO)
def Sl.isOw : Sl → Bool
  | .ow _ _ => true
  | .ob _ _ _ => true
  | _ => false
def Sl.isRf : Sl → Bool
  | .rf _ => true
  | _ => false

/-- the def's entry: the heap, its shared part, the addresses of what is lent -/
structure Fr where
  H : Hp
  M : Hp
  B : Nat → Option Addr

/-- an owned container: its top at a -/
def OwnT (Γ : Ct) (H M : Hp) : D → Addr → Prop
  | .lst l, a => ∃ xs, H a = some (.lst xs) ∧ Ats Γ M l xs
  | .dic ks l, a => ∃ kvs, H a = some (.dK kvs) ∧ kvs.map (·.1) = ks ∧ Ats Γ M l (kvs.map (·.2))
  | .obj c l, a => ∃ dx fs, H a = some (.ins (Γ.cls c) dx fs) ∧ fs.map (·.1) = Γ.fld c ∧ Ats Γ M l (fs.map (·.2))
  | _, _ => False
/-- .. an object under construction -/
def ObT (Γ : Ct) (H M : Hp) (c : Nat) (l : List D) (a : Addr) : Prop := ∃ dx fs, H a = some (.ins (Γ.cls c) dx fs) ∧ fs.map (·.1) = (Γ.fld c).take l.length ∧ Ats Γ M l (fs.map (·.2))
def Lent (F : Fr) (t : Nat) (a : Addr) : Prop := (F.H a = none ∨ ∃ i, F.B i = some a) ∧ ∀ i, t = i + 1 → F.B i = some a

def SlAt (Γ : Ct) (F : Fr) (σ : St) (H M : Hp) : Sl → Option V → Prop
  | .no, _ => True
  | .va d, v => ∃ x, v = some x ∧ At Γ M d x
  | .ow t d, v => ∃ a, v = some (.ref a) ∧ M a = none ∧ OwnT Γ H M d a ∧ Lent F t a
  | .ob t c l, v => ∃ a, v = some (.ref a) ∧ M a = none ∧ ObT Γ H M c l a ∧ Lent F t a
  | .sc ns, v => ∃ a, v = some (.ref a) ∧ SqL Γ.K M a (ns.map V.int)
  | .rf i, v => σ[i]? = some v ∧ v ≠ none
  | .hd o, v => ∃ a, v = some (.ref a) ∧ M a = some o

def Dj (p q : Sl × Option V) : Prop := p.1.isOw = true → q.1.isOw = true → p.2 ≠ q.2

structure RepM (Γ : Ct) (F : Fr) (M : Hp) (T : List (Sl × Option V)) (S : List Sl) (σ : St) (H : Hp) : Prop where
  len : S.length = σ.length
  nrf : ∀ (i : Nat) (s : Sl), S[i]? = some s → s.isRf = false
  sub : Same M H
  frm : ∀ a o, F.H a = some o → (∀ i, F.B i ≠ some a) → H a = some o
  old : Same F.M M
  new : ∀ a o, M a = some o → F.M a = some o ∨ F.H a = none ∨ ∃ i, F.B i = some a
  allT : ∀ p ∈ T, SlAt Γ F σ H M p.1 p.2
  allS : ∀ (i : Nat) (s : Sl) (v : Option V), S[i]? = some s → σ[i]? = some v → SlAt Γ F σ H M s v
  disT : T.Pairwise Dj
  disS : ∀ (i j : Nat) (s s' : Sl) (v : Option V), i ≠ j → S[i]? = some s → S[j]? = some s' → s.isOw = true → s'.isOw = true → σ[i]? = some v → σ[j]? ≠ some v
  disX : ∀ p ∈ T, p.1.isOw = true → ∀ (i : Nat) (s : Sl), S[i]? = some s → s.isOw = true → σ[i]? ≠ some p.2
def Rep (Γ : Ct) (F : Fr) (T : List (Sl × Option V)) (S : List Sl) (σ : St) (H : Hp) : Prop := ∃ M, RepM Γ F M T S σ H

/-- the heap grows: M' is the shared part of H' -/
structure Grow (H M H' M' : Hp) : Prop where
  h : Same H H'
  m : Same M M'
  s : Same M' H'
  n : ∀ a o, M' a = some o → M a = some o ∨ H a = none
theorem Grow.refl {H M : Hp} (h : Same M H) : Grow H M H M := ⟨Same.refl H, Same.refl M, h, fun _ _ e => .inl e⟩
theorem Grow.trans {H M H1 M1 H2 M2 : Hp} (g : Grow H M H1 M1) (k : Grow H1 M1 H2 M2) : Grow H M H2 M2 :=
  ⟨g.h.trans k.h, g.m.trans k.m, k.s, fun a o e => by
    rcases k.n a o e with z | z
    · exact g.n a o z
    · exact .inr (g.h.free z)⟩
/-- a new shared object -/
theorem Grow.new {H M : Hp} {p : Addr} {o : HO} (s : Same M H) (n : H p = none) : Grow H M (upd H p o) (upd M p o) := by
  have n' : M p = none := s.free n
  refine ⟨fun b u e => ?_, fun b u e => ?_, fun b u e => ?_, fun b u e => ?_⟩
  · rw [upd_ne (ne_of_none e n)]
    exact e
  · rw [upd_ne (ne_of_none e n')]
    exact e
  · by_cases h : b = p
    · subst h
      rw [upd_same] at e ⊢
      exact e
    · rw [upd_ne h] at e ⊢
      exact s b u e
  · by_cases h : b = p
    · subst h
      exact .inr n
    · rw [upd_ne h] at e
      exact .inl e
/-- a new object that nobody shares -/
theorem Grow.own {H M : Hp} {p : Addr} {o : HO} (s : Same M H) (n : H p = none) : Grow H M (upd H p o) M :=
  ⟨fun b u e => by rw [upd_ne (ne_of_none e n)]; exact e, Same.refl M, fun b u e => by rw [upd_ne (ne_of_none (s b u e) n)]; exact s b u e, fun _ _ e => .inl e⟩

section
variable {Γ : Ct} {F : Fr} {M M' H H' : Hp} {T : List (Sl × Option V)} {S : List Sl} {σ : St} {p : Sl × Option V}
theorem OwnT.gr {d : D} {a : Addr} (h : OwnT Γ H M d a) (hh : ∀ o, H a = some o → H' a = some o) (m : Same M M') : OwnT Γ H' M' d a := by
  cases d with
  | lst l =>
    obtain ⟨xs, ha, hs⟩ := h
    exact ⟨xs, hh _ ha, hs.ex m⟩
  | dic ks l =>
    obtain ⟨kvs, ha, hk, hs⟩ := h
    exact ⟨kvs, hh _ ha, hk, hs.ex m⟩
  | obj c l =>
    obtain ⟨dx, fs, ha, hk, hs⟩ := h
    exact ⟨dx, fs, hh _ ha, hk, hs.ex m⟩
  | _ => exact h.elim
theorem ObT.gr {c : Nat} {l : List D} {a : Addr} (h : ObT Γ H M c l a) (hh : ∀ o, H a = some o → H' a = some o) (m : Same M M') : ObT Γ H' M' c l a := by
  obtain ⟨dx, fs, ha, hk, hs⟩ := h
  exact ⟨dx, fs, hh _ ha, hk, hs.ex m⟩
theorem OwnT.there {d : D} {a : Addr} (h : OwnT Γ H M d a) : ∃ o, H a = some o := by
  cases d with
  | lst l =>
    obtain ⟨xs, ha, hs⟩ := h
    exact ⟨_, ha⟩
  | dic ks l =>
    obtain ⟨kvs, ha, hk, hs⟩ := h
    exact ⟨_, ha⟩
  | obj c l =>
    obtain ⟨dx, fs, ha, hk, hs⟩ := h
    exact ⟨_, ha⟩
  | _ => exact h.elim
theorem ObT.there {c : Nat} {l : List D} {a : Addr} (h : ObT Γ H M c l a) : ∃ o, H a = some o := by
  obtain ⟨dx, fs, ha, hk, hs⟩ := h
  exact ⟨_, ha⟩
/-- a slot's description over a change of the heaps -/
theorem SlAt.mv {s : Sl} {v : Option V} (h : SlAt Γ F σ H M s v) (m : Same M M') (k : ∀ a, s.isOw = true → v = some (.ref a) → M a = none → (∃ o, H a = some o) → M' a = none ∧ ∀ o, H a = some o → H' a = some o) : SlAt Γ F σ H' M' s v := by
  cases s with
  | no => trivial
  | va d =>
    obtain ⟨x, e, h⟩ := h
    exact ⟨x, e, h.ex m⟩
  | ow t d =>
    obtain ⟨a, e, n, h, l⟩ := h
    obtain ⟨k1, k2⟩ := k a rfl e n h.there
    exact ⟨a, e, k1, h.gr k2 m, l⟩
  | ob t c l =>
    obtain ⟨a, e, n, h, l⟩ := h
    obtain ⟨k1, k2⟩ := k a rfl e n h.there
    exact ⟨a, e, k1, h.gr k2 m, l⟩
  | sc ns =>
    obtain ⟨a, e, h⟩ := h
    exact ⟨a, e, m.seq h⟩
  | rf i => exact h
  | hd o =>
    obtain ⟨a, e, h⟩ := h
    exact ⟨a, e, m _ _ h⟩
theorem RepM.drop (r : RepM Γ F M (p :: T) S σ H) : RepM Γ F M T S σ H :=
  ⟨r.len, r.nrf, r.sub, r.frm, r.old, r.new, fun q hq => r.allT q (List.mem_cons_of_mem _ hq), r.allS, (List.pairwise_cons.mp r.disT).2, r.disS, fun q hq => r.disX q (List.mem_cons_of_mem _ hq)⟩
theorem Rep.drop (r : Rep Γ F (p :: T) S σ H) : Rep Γ F T S σ H := let ⟨M, m⟩ := r; ⟨M, m.drop⟩
/-- behind the second -/
theorem RepM.drop1 {q : Sl × Option V} (r : RepM Γ F M (q :: p :: T) S σ H) : RepM Γ F M (q :: T) S σ H := by
  have d := List.pairwise_cons.mp r.disT
  refine ⟨r.len, r.nrf, r.sub, r.frm, r.old, r.new, fun z hz => ?_, r.allS, List.pairwise_cons.mpr ⟨fun z hz => d.1 z (List.mem_cons_of_mem _ hz), (List.pairwise_cons.mp d.2).2⟩, r.disS, fun z hz => ?_⟩
  · rcases List.mem_cons.mp hz with rfl | hz
    · exact r.allT _ List.mem_cons_self
    · exact r.allT z (List.mem_cons_of_mem _ (List.mem_cons_of_mem _ hz))
  · rcases List.mem_cons.mp hz with rfl | hz
    · exact r.disX _ List.mem_cons_self
    · exact r.disX z (List.mem_cons_of_mem _ (List.mem_cons_of_mem _ hz))
theorem RepM.grow (r : RepM Γ F M T S σ H) (g : Grow H M H' M') : RepM Γ F M' T S σ H' := by
  have mv : ∀ (s : Sl) (v : Option V), SlAt Γ F σ H M s v → SlAt Γ F σ H' M' s v := fun s v h => h.mv g.m fun a _ _ n ⟨o, ha⟩ => by
    refine ⟨?_, fun o h => g.h a o h⟩
    cases e : M' a with
    | none => rfl
    | some u =>
      rcases g.n a u e with z | z
      · rw [n] at z
        cases z
      · rw [ha] at z
        cases z
  refine ⟨r.len, r.nrf, g.s, fun a o h b => g.h a o (r.frm a o h b), r.old.trans g.m, fun a o e => ?_, fun p hp => mv _ _ (r.allT p hp), fun i s v h1 h2 => mv _ _ (r.allS i s v h1 h2), r.disT, r.disS, r.disX⟩
  rcases g.n a o e with z | z
  · exact r.new a o z
  · cases q : F.H a with
    | none => exact .inr (.inl rfl)
    | some u =>
      by_cases b : ∃ i, F.B i = some a
      · exact .inr (.inr b)
      · have := r.frm a u q fun i hi => b ⟨i, hi⟩
        rw [z] at this
        cases this
/-- a new shared value on the pile -/
theorem RepM.push {d : D} {v : V} (r : RepM Γ F M T S σ H) (h : At Γ M d v) : RepM Γ F M ((.va d, some v) :: T) S σ H := by
  refine ⟨r.len, r.nrf, r.sub, r.frm, r.old, r.new, fun p hp => ?_, r.allS, List.pairwise_cons.mpr ⟨fun z _ z1 => (nomatch z1), r.disT⟩, r.disS, fun p hp z => ?_⟩
  · rcases List.mem_cons.mp hp with rfl | hp
    · exact ⟨v, rfl, h⟩
    · exact r.allT p hp
  · rcases List.mem_cons.mp hp with rfl | hp
    · cases z
    · exact r.disX p hp z
/-- the addresses of what is owned -/
theorem SlAt.owned {s : Sl} {v : Option V} (h : SlAt Γ F σ H M s v) (o : s.isOw = true) : ∃ a, v = some (.ref a) ∧ M a = none ∧ ∃ u, H a = some u := by
  cases s with
  | ow t d =>
    obtain ⟨a, e, n, h, _⟩ := h
    exact ⟨a, e, n, h.there⟩
  | ob t c l =>
    obtain ⟨a, e, n, h, _⟩ := h
    exact ⟨a, e, n, h.there⟩
  | _ => cases o
/-- a new owned value on the pile: p is new -/
theorem RepM.pushO {s : Sl} {a : Addr} (r : RepM Γ F M T S σ H) (o : s.isOw = true) (h : SlAt Γ F σ H' M s (some (.ref a))) (n : H a = none) (hh : Same H H') (hs : Same M H') : RepM Γ F M ((s, some (.ref a)) :: T) S σ H' := by
  have mv : ∀ (s : Sl) (v : Option V), SlAt Γ F σ H M s v → SlAt Γ F σ H' M s v := fun s v h => h.mv (Same.refl M) fun a _ _ n _ => ⟨n, fun o h => hh a o h⟩
  have far : ∀ (s' : Sl) (v : Option V), SlAt Γ F σ H M s' v → s'.isOw = true → v ≠ some (.ref a) := fun s' v h' o' e => by
    obtain ⟨b, eb, _, u, hb⟩ := h'.owned o'
    rw [e] at eb
    cases eb
    rw [n] at hb
    cases hb
  refine ⟨r.len, r.nrf, hs, fun b o h b' => hh b o (r.frm b o h b'), r.old, r.new, fun p hp => ?_, fun i s v h1 h2 => mv _ _ (r.allS i s v h1 h2), List.pairwise_cons.mpr ⟨fun z hz _ z2 => (far _ _ (r.allT z hz) z2).symm, r.disT⟩, r.disS, fun p hp z i s' h1 h2 h3 => ?_⟩
  · rcases List.mem_cons.mp hp with rfl | hp
    · exact h
    · exact mv _ _ (r.allT p hp)
  · rcases List.mem_cons.mp hp with rfl | hp
    · exact far _ _ (r.allS i s' _ h1 h3) h2 rfl
    · exact r.disX p hp z i s' h1 h2 h3
end
end Mi

/-! The mirror layer: what expressions are worth, over slots; the step from there to HandS' readings. -/
namespace Mi
open PySem L2
open PyProof.Rows hiding St

inductive Rs (α : Type) where
  | ok (a : α) | er (c : Nat) (d : Option D) | no
def Rs.bind {α β : Type} : Rs α → (α → Rs β) → Rs β
  | .ok a, f => f a
  | .er c d, _ => .er c d
  | .no, _ => .no
def lift {α : Type} : Option α → Rs α
  | some a => .ok a
  | none => .no
abbrev Ef := List Sl → Rs (Sl × List Sl)

/-- the datum of a value, read where it stands -/
def peek (S : List Sl) : Sl → Option D
  | .va d => some d
  | .ow _ d => some d
  | .rf i => match S[i]? with
    | some (.va d) => some d
    | some (.ow _ d) => some d
    | _ => none
  | _ => none
/-- .. made a shared one -/
def fz (S : List Sl) : Sl → Option (D × List Sl)
  | .va d => some (d, S)
  | .ow _ d => some (d, S)
  | .rf i => match S[i]? with
    | some (.va d) => some (d, S)
    | some (.ow _ d) => some (d, S.set i (.va d))
    | _ => none
  | _ => none

section
variable {Γ : Ct} {F : Fr} {M M' H H' : Hp} {T : List (Sl × Option V)} {S : List Sl} {σ : St} {p : Sl × Option V}
theorem OwnT.top {d : D} {a : Addr} (h : OwnT Γ H M d a) : AtT Γ H M d (.ref a) := by
  cases d with
  | lst l =>
    obtain ⟨xs, ha, hs⟩ := h
    exact ⟨a, xs, rfl, ha, hs⟩
  | dic ks l =>
    obtain ⟨kvs, ha, hk, hs⟩ := h
    exact ⟨a, kvs, rfl, ha, hk, hs⟩
  | obj c l =>
    obtain ⟨dx, fs, ha, hk, hs⟩ := h
    exact ⟨a, dx, fs, rfl, ha, hk, hs⟩
  | _ => exact h.elim
theorem OwnT.share {d : D} {a : Addr} (h : OwnT Γ H M d a) (hM : Same M M') (ha : ∀ o, H a = some o → M' a = some o) : At Γ M' d (.ref a) := by
  cases d with
  | lst l =>
    obtain ⟨xs, h1, hs⟩ := h
    exact ⟨a, xs, rfl, ha _ h1, hs.ex hM⟩
  | dic ks l =>
    obtain ⟨kvs, h1, hk, hs⟩ := h
    exact ⟨a, kvs, rfl, ha _ h1, hk, hs.ex hM⟩
  | obj c l =>
    obtain ⟨dx, fs, h1, hk, hs⟩ := h
    exact ⟨a, dx, fs, rfl, ha _ h1, hk, hs.ex hM⟩
  | _ => exact h.elim
/-- a value of the pile is its datum -/
theorem RepM.at_ {r : Sl} {v : V} {d : D} (R : RepM Γ F M T S σ H) (h : (r, some v) ∈ T) (e : peek S r = some d) : AtT Γ H M d v := by
  have q : SlAt Γ F σ H M r (some v) := R.allT _ h
  cases r with
  | va d' =>
    cases e
    obtain ⟨x, ex, hx⟩ := q
    cases ex
    exact hx.top R.sub
  | ow t d' =>
    cases e
    obtain ⟨a, ea, n, ho, _⟩ := q
    cases ea
    exact ho.top
  | rf i =>
    obtain ⟨q1, q2⟩ := q
    dsimp only [peek] at e
    cases h1 : S[i]? with
    | none =>
      rw [h1] at e
      cases e
    | some s =>
      rw [h1] at e
      have z := R.allS i s _ h1 q1
      cases s with
      | va d' =>
        cases e
        obtain ⟨x, ex, hx⟩ := z
        cases ex
        exact hx.top R.sub
      | ow t d' =>
        cases e
        obtain ⟨a, ea, n, ho, _⟩ := z
        cases ea
        exact ho.top
      | _ => cases e
  | _ => cases e
/-- what is owned at a becomes shared; the rest -/
theorem share_rest {a : Addr} {o : HO} {s : Sl} {v : Option V} (h : SlAt Γ F σ H M s v) (n : M a = none) (d : s.isOw = true → v ≠ some (.ref a)) : SlAt Γ F σ H (upd M a o) s v :=
  h.mv (fun b u e => by rw [upd_ne (ne_of_none e n)]; exact e) fun b ho hv hb _ => by
    refine ⟨?_, fun _ z => z⟩
    rw [upd_ne fun z => d ho (by rw [hv, z])]
    exact hb
theorem RepM.shareS {i t : Nat} {d : D} (R : RepM Γ F M T S σ H) (h : S[i]? = some (.ow t d)) : ∃ M' v, σ[i]? = some (some v) ∧ At Γ M' d v ∧ Same M M' ∧ RepM Γ F M' T (S.set i (.va d)) σ H := by
  have hi : i < S.length := (List.getElem?_eq_some_iff.mp h).1
  obtain ⟨v, hv⟩ : ∃ v, σ[i]? = some v := ⟨_, List.getElem?_eq_getElem (by rw [← R.len]; exact hi)⟩
  obtain ⟨a, rfl, n, ho, ln⟩ := R.allS i _ _ h hv
  obtain ⟨o, ha⟩ := ho.there
  have mm : Same M (upd M a o) := fun b u e => by rw [upd_ne (ne_of_none e n)]; exact e
  refine ⟨upd M a o, .ref a, hv, ho.share mm (fun u hu => ?_), mm, ?_⟩
  · rw [ha] at hu
    rw [upd_same, ← hu]
  · have get : ∀ j : Nat, (S.set i (.va d))[j]? = if i = j then some (.va d) else S[j]? := fun j => by
      by_cases e : i = j
      · subst e
        rw [if_pos rfl, List.getElem?_set_self hi]
      · rw [if_neg e, List.getElem?_set_ne e]
    refine ⟨by rw [List.length_set]; exact R.len, fun j s hj => ?_, fun b u e => ?_, R.frm, R.old.trans mm, fun b u e => ?_, fun p hp => share_rest (R.allT p hp) n fun ow e => R.disX p hp ow i _ h rfl (by rw [e]; exact hv), fun j s w h1 h2 => ?_, R.disT, fun j k s s' w ne h1 h2 o1 o2 => ?_, fun p hp ow j s h1 o1 => ?_⟩
    · rw [get] at hj
      by_cases e : i = j
      · rw [if_pos e] at hj
        cases hj
        rfl
      · rw [if_neg e] at hj
        exact R.nrf j s hj
    · by_cases hb : b = a
      · subst hb
        rw [upd_same] at e
        cases e
        exact ha
      · rw [upd_ne hb] at e
        exact R.sub b u e
    · by_cases hb : b = a
      · subst hb
        exact .inr ln.1
      · rw [upd_ne hb] at e
        exact R.new b u e
    · rw [get] at h1
      by_cases e : i = j
      · subst e
        rw [if_pos rfl] at h1
        cases h1
        rw [hv] at h2
        cases h2
        exact ⟨_, rfl, ho.share mm fun u hu => by rw [ha] at hu; rw [upd_same, ← hu]⟩
      · rw [if_neg e] at h1
        exact share_rest (R.allS j s w h1 h2) n fun ow e2 => R.disS i j _ s _ e h h1 rfl ow hv (by rw [h2, e2])
    · rw [get] at h1 h2
      by_cases e : i = j
      · rw [if_pos e] at h1
        cases h1
        cases o1
      · rw [if_neg e] at h1
        by_cases e' : i = k
        · rw [if_pos e'] at h2
          cases h2
          cases o2
        · rw [if_neg e'] at h2
          exact R.disS j k s s' w ne h1 h2 o1 o2
    · rw [get] at h1
      by_cases e : i = j
      · rw [if_pos e] at h1
        cases h1
        cases o1
      · rw [if_neg e] at h1
        exact R.disX p hp ow j s h1 o1
theorem RepM.shareT {t : Nat} {d : D} {v : Option V} (R : RepM Γ F M ((.ow t d, v) :: T) S σ H) : ∃ M' x, v = some x ∧ At Γ M' d x ∧ Same M M' ∧ RepM Γ F M' ((.va d, v) :: T) S σ H := by
  obtain ⟨a, rfl, n, ho, ln⟩ := R.allT _ List.mem_cons_self
  obtain ⟨o, ha⟩ := ho.there
  have mm : Same M (upd M a o) := fun b u e => by rw [upd_ne (ne_of_none e n)]; exact e
  have hA := ho.share mm (fun u hu => by rw [ha] at hu; rw [upd_same, ← hu])
  have dT := List.pairwise_cons.mp R.disT
  refine ⟨upd M a o, .ref a, rfl, hA, mm, ?_⟩
  refine ⟨R.len, R.nrf, fun b u e => ?_, R.frm, R.old.trans mm, fun b u e => ?_, fun p hp => ?_, fun j s w h1 h2 => share_rest (R.allS j s w h1 h2) n fun ow e2 => R.disX _ List.mem_cons_self rfl j s h1 ow (by rw [h2, e2]), List.pairwise_cons.mpr ⟨fun z _ z1 => (nomatch z1), dT.2⟩, R.disS, fun p hp ow j s h1 o1 => ?_⟩
  · by_cases hb : b = a
    · subst hb
      rw [upd_same] at e
      cases e
      exact ha
    · rw [upd_ne hb] at e
      exact R.sub b u e
  · by_cases hb : b = a
    · subst hb
      exact .inr ln.1
    · rw [upd_ne hb] at e
      exact R.new b u e
  · rcases List.mem_cons.mp hp with rfl | hp
    · exact ⟨_, rfl, hA⟩
    · exact share_rest (R.allT p (List.mem_cons_of_mem _ hp)) n fun ow e => dT.1 p hp rfl ow e.symm
  · rcases List.mem_cons.mp hp with rfl | hp
    · cases ow
    · exact R.disX p (List.mem_cons_of_mem _ hp) ow j s h1 o1
/-- the value on top of the pile is made a shared one -/
theorem RepM.fz {r : Sl} {v : V} {d : D} {S' : List Sl} (R : RepM Γ F M ((r, some v) :: T) S σ H) (e : fz S r = some (d, S')) : ∃ M', At Γ M' d v ∧ Same M M' ∧ RepM Γ F M' ((.va d, some v) :: T) S' σ H := by
  cases r with
  | va d' =>
    cases e
    obtain ⟨x, ex, hx⟩ := R.allT _ List.mem_cons_self
    cases ex
    exact ⟨M, hx, Same.refl M, R⟩
  | ow t d' =>
    cases e
    obtain ⟨M', x, ex, hx, mm, R'⟩ := R.shareT
    cases ex
    exact ⟨M', hx, mm, R'⟩
  | rf i =>
    obtain ⟨q1, q2⟩ := R.allT _ List.mem_cons_self
    dsimp only [Mi.fz] at e
    cases h1 : S[i]? with
    | none =>
      rw [h1] at e
      cases e
    | some s =>
      rw [h1] at e
      cases s with
      | va d' =>
        cases e
        obtain ⟨x, ex, hx⟩ := R.allS i _ _ h1 q1
        cases ex
        exact ⟨M, hx, Same.refl M, R.drop.push hx⟩
      | ow t d' =>
        cases e
        obtain ⟨M', x, ex, hx, mm, R'⟩ := R.drop.shareS h1
        rw [q1] at ex
        cases ex
        exact ⟨M', hx, mm, R'.push hx⟩
      | _ => cases e
  | _ => cases e
/-- the heap grows by what a new owned value needs -/
theorem RepM.growO {a : Addr} {d : D} (R : RepM Γ F M T S σ H) (g : Grow H M H' M') (n : H a = none) (n' : M' a = none) (h : OwnT Γ H' M' d a) : RepM Γ F M' ((.ow 0 d, some (.ref a)) :: T) S σ H' := by
  have G := R.grow g
  have far : ∀ (s' : Sl) (v : Option V), SlAt Γ F σ H M s' v → s'.isOw = true → v ≠ some (.ref a) := fun s' v h' o' e => by
    obtain ⟨b, eb, _, u, hb⟩ := h'.owned o'
    rw [e] at eb
    cases eb
    rw [n] at hb
    cases hb
  refine ⟨G.len, G.nrf, G.sub, G.frm, G.old, G.new, fun p hp => ?_, G.allS, List.pairwise_cons.mpr ⟨fun z hz _ z2 => (far _ _ (R.allT z hz) z2).symm, G.disT⟩, G.disS, fun p hp z i s' h1 h2 h3 => ?_⟩
  · rcases List.mem_cons.mp hp with rfl | hp
    · refine ⟨a, rfl, n', h, ?_, fun i z => (nomatch z)⟩
      cases q : F.H a with
      | none => exact .inl rfl
      | some u =>
        by_cases b : ∃ i, F.B i = some a
        · exact .inr b
        · have := R.frm a u q fun i hi => b ⟨i, hi⟩
          rw [n] at this
          cases this
    · exact G.allT p hp
  · rcases List.mem_cons.mp hp with rfl | hp
    · exact far _ _ (R.allS i s' _ h1 h3) h2 rfl
    · exact G.disX p hp z i s' h1 h2 h3
end

/-- behind an operation: the result r is v in H' -/
def Post (Γ : Ct) (H M : Hp) (r : Sl) (v : V) (H' : Hp) : Prop := ∃ M', Grow H M H' M' ∧ match r with
  | .va z => At Γ M' z v
  | .ow 0 z => ∃ p, v = .ref p ∧ H p = none ∧ M' p = none ∧ OwnT Γ H' M' z p
  | _ => False
theorem RepM.post {Γ : Ct} {F : Fr} {M H H' : Hp} {T : List (Sl × Option V)} {S : List Sl} {σ : St} {r : Sl} {v : V} (R : RepM Γ F M T S σ H) (h : Post Γ H M r v H') : Rep Γ F ((r, some v) :: T) S σ H' := by
  obtain ⟨M', g, h⟩ := h
  cases r with
  | va z => exact ⟨M', (R.grow g).push h⟩
  | ow t z =>
    cases t with
    | zero =>
      obtain ⟨p, rfl, n, n', h⟩ := h
      exact ⟨M', R.growO g n n' h⟩
    | succ t => exact h.elim
  | _ => exact h.elim
theorem Post.va {Γ : Ct} {H M : Hp} {d : D} {v : V} (s : Same M H) (h : At Γ M d v) : Post Γ H M (.va d) v H := ⟨M, Grow.refl s, h⟩

/-- an own error c with what it was made of, x its dict's address -/
def ErrAt (Γ : Ct) (F : Fr) (c : Nat) (d : Option D) (x : Option Addr) (H : Hp) : Prop := ∃ M, Same M H ∧ (∀ a o, F.H a = some o → (∀ i, F.B i ≠ some a) → H a = some o) ∧ Same F.M M ∧
  (∀ a o, M a = some o → F.M a = some o ∨ F.H a = none ∨ ∃ i, F.B i = some a) ∧ match Γ.erf c, d with
  | none, none => x = none
  | some f, some e => ∃ p v, x = some p ∧ (F.H p = none ∨ ∃ i, F.B i = some p) ∧ H p = some (.xd [(f, v)]) ∧ M p = none ∧ At Γ M e v
  | _, _ => False
def Ok3 (Γ : Ct) (F : Fr) (W : WX) (σ : St) {α : Type} (r : Rs α) (k : α → Prop) : Prop := match r with
  | .ok a => k a
  | .er c d => ∀ x H', ErrAt Γ F c d x H' → W (.ref (Γ.err c)) x σ H'
  | .no => False
section
variable {Γ : Ct} {F : Fr} {W : WX} {σ : St} {α β : Type}
theorem Ok3.bind {r : Rs α} {f : α → Rs β} {k : β → Prop} (h : Ok3 Γ F W σ (r.bind f) k) : Ok3 Γ F W σ r fun a => Ok3 Γ F W σ (f a) k := by
  cases r <;> exact h
theorem Ok3.mono {r : Rs α} {k k' : α → Prop} (h : Ok3 Γ F W σ r k) (m : ∀ a, k a → k' a) : Ok3 Γ F W σ r k' := by
  cases r with
  | ok a => exact m a h
  | er c d => exact h
  | no => exact h
theorem Ok3.lift {o : Option α} {k : α → Prop} (h : Ok3 Γ F W σ (lift o) k) : ∃ a, o = some a ∧ k a := by
  cases o with
  | none => exact h.elim
  | some a => exact ⟨a, rfl, h⟩
end
def tE (Γ : Ct) (F : Fr) (W : WX) (f : Ef) : TE := fun σ H Q => ∃ T S, Rep Γ F T S σ H ∧ Ok3 Γ F W σ (f S) fun a => ∀ v H', Rep Γ F ((a.1, some v) :: T) a.2 σ H' → Q v H'
def DE (X : Cx) (Γ : Ct) (F : Fr) (W : WX) (e : Expr) (f : Ef) : Prop := PE X e (tE Γ F W f)
theorem PE.mono {X : Cx} {e : Expr} {t t' : TE} (h : PE X e t) (m : ∀ σ H Q, t' σ H Q → t σ H Q) : PE X e t' := ⟨fun pins s σ H Q I q => h.run pins s σ H Q I (m σ H Q q)⟩
theorem PT.mono {X : Cx} {e : Expr} {t t' : TT} (h : PT X e t) (m : ∀ σ H Q, t' σ H Q → t σ H Q) : PT X e t' := ⟨fun pins s σ H Q I q => h.run pins s σ H Q I (m σ H Q q)⟩
theorem PA.mono {X : Cx} {e : List Expr} {t t' : TA} (h : PA X e t) (m : ∀ σ H Q, t' σ H Q → t σ H Q) : PA X e t' := ⟨fun pos pins s σ H Q I q => h.run pos pins s σ H Q I (m σ H Q q)⟩
theorem PS.mono {X : Cx} {st : Stmt} {t t' : TS} (h : PS X st t) (m : ∀ D σ H, t' D σ H → t D σ H) : PS X st t' := ⟨fun pins s σ H D I q => h.run pins s σ H D I (m D σ H q)⟩
theorem PSs.mono {X : Cx} {st : List Stmt} {t t' : TS} (h : PSs X st t) (m : ∀ D σ H, t' D σ H → t D σ H) : PSs X st t' := ⟨fun pins s σ H D I q => h.run pins s σ H D I (m D σ H q)⟩
section
variable {X : Cx} {Γ : Ct} {F : Fr} {W : WX} {e a b : Expr} {fa fb : Ef} {pos : Pos}

theorem RepM.pushR {M H : Hp} {T : List (Sl × Option V)} {S : List Sl} {σ : St} {i : Nat} {v : V} (r : RepM Γ F M T S σ H) (hv : σ[i]? = some (some v)) : RepM Γ F M ((.rf i, some v) :: T) S σ H := by
  refine ⟨r.len, r.nrf, r.sub, r.frm, r.old, r.new, fun p hp => ?_, r.allS, List.pairwise_cons.mpr ⟨fun z _ z1 => (nomatch z1), r.disT⟩, r.disS, fun p hp z => ?_⟩
  · rcases List.mem_cons.mp hp with rfl | hp
    · exact ⟨hv, fun z => (nomatch z)⟩
    · exact r.allT p hp
  · rcases List.mem_cons.mp hp with rfl | hp
    · cases z
    · exact r.disX p hp z
/-! ### constants, names -/
def fC (d : D) : Ef := fun S => .ok (.va d, S)
theorem de_c {d : D} {v : V} (h : PE X e (tC v)) (hd : ∀ M, At Γ M d v) : DE X Γ F W e (fC d) := PE.mono h fun σ H Q ⟨T, S, ⟨M, r⟩, k⟩ => k v H ⟨M, r.push (hd M)⟩
theorem de_int {i j pos} : DE X Γ F W (.Constant (.int i) j pos) (fC (.int i)) := de_c pe_int fun _ => rfl
theorem de_bl {i j pos} : DE X Γ F W (.Constant (.bool i) j pos) (fC (.bl i)) := de_c pe_bl fun _ => rfl
theorem de_non {j pos} : DE X Γ F W (.Constant .none j pos) (fC .non) := de_c pe_non fun _ => rfl
theorem de_str {i j pos} : DE X Γ F W (.Constant (.str i) j pos) (fC (.str i)) := de_c pe_str fun _ => rfl
/-- a name -/
def fV (i : Nat) : Ef := fun S => match S[i]? with
  | some (.va d) => .ok (.va d, S)
  | some (.ow _ _) => .ok (.rf i, S)
  | some (.ob _ _ _) => .ok (.rf i, S)
  | some (.sc _) => .ok (.rf i, S)
  | _ => .no
theorem de_v {i : Nat} (h : PE X e (tVar i)) : DE X Γ F W e (fV i) := PE.mono h fun σ H Q ⟨T, S, ⟨M, r⟩, k⟩ => by
  unfold fV at k
  cases h1 : S[i]? with
  | none =>
    rw [h1] at k
    exact k.elim
  | some s =>
    rw [h1] at k
    have hi : i < S.length := (List.getElem?_eq_some_iff.mp h1).1
    obtain ⟨v, hv⟩ : ∃ v, σ[i]? = some v := ⟨_, List.getElem?_eq_getElem (by rw [← r.len]; exact hi)⟩
    have q := r.allS i s v h1 hv
    cases s with
    | va d =>
      obtain ⟨x, rfl, hx⟩ := q
      exact ⟨x, hv, k x H ⟨M, r.push hx⟩⟩
    | ow t d =>
      obtain ⟨a, rfl, n, ho, ln⟩ := q
      exact ⟨.ref a, hv, k _ H ⟨M, r.pushR hv⟩⟩
    | ob t c l =>
      obtain ⟨a, rfl, n, ho, ln⟩ := q
      exact ⟨.ref a, hv, k _ H ⟨M, r.pushR hv⟩⟩
    | sc ns =>
      obtain ⟨a, rfl, n⟩ := q
      exact ⟨.ref a, hv, k _ H ⟨M, r.pushR hv⟩⟩
    | _ => exact k.elim

/-! ### operators -/
def OpD (X : Cx) (Γ : Ct) (f : Value → Value → Sem Value) (sem : D → D → Option Sl) : Prop := ∃ R : R2, OpR X f R ∧ ∀ (H M : Hp) (x y : V) (d e : D) (r : Sl) (Q : VK), Same M H → AtT Γ H M d x → AtT Γ H M e y → sem d e = some r → (∀ v H', Post Γ H M r v H' → Q v H') → R x y H Q
def fB (sem : D → D → Option Sl) (fa fb : Ef) : Ef := fun S => (fa S).bind fun a => (fb a.2).bind fun b => lift ((peek b.2 a.1).bind fun d => (peek b.2 b.1).bind fun e => (sem d e).map fun r => (r, b.2))
theorem fB_ok {sem : D → D → Option Sl} {R : R2} (ho : ∀ (H M : Hp) (x y : V) (d e : D) (r : Sl) (Q : VK), Same M H → AtT Γ H M d x → AtT Γ H M e y → sem d e = some r → (∀ v H', Post Γ H M r v H' → Q v H') → R x y H Q) :
    ∀ σ H Q, tE Γ F W (fB sem fa fb) σ H Q → tOp R (tE Γ F W fa) (tE Γ F W fb) σ H Q := by
  rintro σ H Q ⟨T, S, rep, h⟩
  refine ⟨T, S, rep, h.bind.mono fun a h1 x H1 rep1 => ⟨_, _, rep1, h1.bind.mono fun b h2 y H2 rep2 => ?_⟩⟩
  obtain ⟨z, hz, k⟩ := h2.lift
  obtain ⟨M, r2⟩ := rep2
  cases e1 : peek b.2 a.1 with
  | none => simp [e1] at hz
  | some d =>
    cases e2 : peek b.2 b.1 with
    | none => simp [e1, e2] at hz
    | some e =>
      cases e3 : sem d e with
      | none => simp [e1, e2, e3] at hz
      | some r =>
        simp only [e1, e2, e3, Option.bind_some, Option.map_some, Option.some.injEq] at hz
        subst hz
        refine ho H2 M x y d e r Q r2.sub (r2.at_ (List.mem_cons_of_mem _ List.mem_cons_self) e1) (r2.at_ List.mem_cons_self e2) e3 fun v H' p => k v H' ?_
        exact r2.drop.drop.post p
theorem de_op {op : Operator} {sem : D → D → Option Sl} (ho : OpD X Γ (binaryOp op) sem) (ha : DE X Γ F W a fa) (hb : DE X Γ F W b fb) : DE X Γ F W (.BinOp a op b pos) (fB sem fa fb) := by
  obtain ⟨R, h1, h2⟩ := ho
  exact PE.mono (pe_op h1 ha hb) (fB_ok h2)
theorem de_cmp {op : CmpOp} {sem : D → D → Option Sl} (ho : OpD X Γ (compareOp op) sem) (ha : DE X Γ F W a fa) (hb : DE X Γ F W b fb) (hm : behindInMarks op b = false) : DE X Γ F W (.Compare a [op] [b] pos) (fB sem fa fb) := by
  obtain ⟨R, h1, h2⟩ := ho
  exact PE.mono (pe_cmpR h1 ha hb hm) (fB_ok h2)
/-- one operand -/
def UnD (X : Cx) (Γ : Ct) (f : Value → Sem Value) (sem : D → Option Sl) : Prop := ∃ R : V → Hp → VK → Prop, UnR X f R ∧ ∀ (H M : Hp) (x : V) (d : D) (r : Sl) (Q : VK), Same M H → AtT Γ H M d x → sem d = some r → (∀ v H', Post Γ H M r v H' → Q v H') → R x H Q
def fU (sem : D → Option Sl) (fa : Ef) : Ef := fun S => (fa S).bind fun a => lift ((peek a.2 a.1).bind fun d => (sem d).map fun r => (r, a.2))
theorem fU_ok {sem : D → Option Sl} {R : V → Hp → VK → Prop} (ho : ∀ (H M : Hp) (x : V) (d : D) (r : Sl) (Q : VK), Same M H → AtT Γ H M d x → sem d = some r → (∀ v H', Post Γ H M r v H' → Q v H') → R x H Q) :
    ∀ σ H Q, tE Γ F W (fU sem fa) σ H Q → tE Γ F W fa σ H fun x H1 => R x H1 Q := by
  rintro σ H Q ⟨T, S, rep, h⟩
  refine ⟨T, S, rep, h.bind.mono fun a h1 x H1 rep1 => ?_⟩
  obtain ⟨z, hz, k⟩ := h1.lift
  obtain ⟨M, r1⟩ := rep1
  cases e1 : peek a.2 a.1 with
  | none => simp [e1] at hz
  | some d =>
    cases e3 : sem d with
    | none => simp [e1, e3] at hz
    | some r =>
      simp only [e1, e3, Option.bind_some, Option.map_some, Option.some.injEq] at hz
      subst hz
      refine ho H1 M x d r Q r1.sub (r1.at_ List.mem_cons_self e1) e3 fun v H' p => k v H' ?_
      exact r1.drop.post p
theorem de_un {op : UnaryOp} {sem : D → Option Sl} (ho : UnD X Γ (unaryOp op) sem) (ha : DE X Γ F W a fa) : DE X Γ F W (.UnaryOp op a pos) (fU sem fa) := by
  obtain ⟨R, h1, h2⟩ := ho
  exact PE.mono (pe_un h1 ha) (fU_ok h2)
end
end Mi

/-! The mirror layer: tests, argument lists, displays, calls of built-ins by values. -/
namespace Mi
open PySem L2
open PyProof.Rows hiding St

abbrev Tf := List Sl → Rs (Bool × List Sl)
def tT (Γ : Ct) (F : Fr) (W : WX) (g : Tf) : TT := fun σ H Q => ∃ T S, Rep Γ F T S σ H ∧ Ok3 Γ F W σ (g S) fun a => ∀ H', Rep Γ F T a.2 σ H' → Q a.1 H'
def DT (X : Cx) (Γ : Ct) (F : Fr) (W : WX) (e : Expr) (g : Tf) : Prop := PT X e (tT Γ F W g)
def DW (X : Cx) (Γ : Ct) (F : Fr) (W : WX) (e : Expr) (g : Tf) : Prop := PW X e (tT Γ F W g)
theorem PW.mono {X : Cx} {e : Expr} {t t' : TT} (h : PW X e t) (m : ∀ σ H Q, t' σ H Q → t σ H Q) : PW X e t' := ⟨fun whole pins s σ H Q I q => h.run whole pins s σ H Q I (m σ H Q q)⟩
/-- a value that is True or False -/
def blOf : Sl → Option Bool
  | .va (.bl b) => some b
  | _ => none
def gB (f : Ef) : Tf := fun S => (f S).bind fun a => lift ((blOf a.1).map fun b => (b, a.2))
def tru : D → Option Bool
  | .non => some false
  | .bl b => some b
  | .int i => some (i != 0)
  | .str x => if x.length ≤ 100000 then some ((x.length : Int) != 0) else none
  | .lst l => some (!l.isEmpty)
  | .tup l => some (!l.isEmpty)
  | .dic ks _ => some (!ks.isEmpty)
  | _ => none
def gT (f : Ef) : Tf := fun S => (f S).bind fun a => lift ((peek a.2 a.1).bind fun d => (tru d).map fun b => (b, a.2))
section
variable {X : Cx} {Γ : Ct} {F : Fr} {W : WX} {e a b c : Expr} {fa fb fc f : Ef} {g g' : Tf} {pos : Pos} {rest : List Expr}
theorem blOf_at {r : Sl} {k : Bool} {v : V} {M H : Hp} {T : List (Sl × Option V)} {S : List Sl} {σ : St} (R : RepM Γ F M ((r, some v) :: T) S σ H) (h : blOf r = some k) : v = .bl k := by
  cases r with
  | va d =>
    cases d with
    | bl b =>
      cases h
      obtain ⟨x, ex, hx⟩ := R.allT _ List.mem_cons_self
      cases ex
      exact hx
    | _ => cases h
  | _ => cases h
theorem gB_ok : ∀ σ H Q, tT Γ F W (gB f) σ H Q → tE Γ F W f σ H fun x H' => ∃ k, x = .bl k ∧ Q k H' := by
  rintro σ H Q ⟨T, S, rep, h⟩
  refine ⟨T, S, rep, h.bind.mono fun a h1 x H1 rep1 => ?_⟩
  obtain ⟨z, hz, k⟩ := h1.lift
  obtain ⟨M, r1⟩ := rep1
  cases e1 : blOf a.1 with
  | none => simp [e1] at hz
  | some b =>
    simp only [e1, Option.map_some, Option.some.injEq] at hz
    subst hz
    exact ⟨b, blOf_at r1 e1, k H1 ⟨M, r1.drop⟩⟩
theorem isEmpty_len {α β : Type} {l : List α} {m : List β} (h : m.length = l.length) : (!m.isEmpty) = !l.isEmpty := by
  cases l <;> cases m <;> simp_all
theorem tru_at {H M : Hp} {d : D} {v : V} {k : Bool} (h : AtT Γ H M d v) (e : tru d = some k) : TruV X.K v H k := by
  cases d with
  | non =>
    obtain rfl := h
    cases e
    rfl
  | bl b =>
    obtain rfl := h
    cases e
    rfl
  | int i =>
    obtain rfl := h
    cases e
    rfl
  | str x =>
    obtain rfl := h
    dsimp only [tru] at e
    split at e
    · cases e
      exact ⟨Evl.sz_of (by assumption), rfl⟩
    · cases e
  | lst l =>
    obtain ⟨p, xs, rfl, hp, hs⟩ := h
    cases e
    exact .inl ⟨xs, SqL.of hp, (isEmpty_len hs.len).symm⟩
  | tup l =>
    obtain ⟨p, xs, rfl, hp, hs⟩ := h
    cases e
    exact .inr (.inl ⟨xs, SqT.of hp, (isEmpty_len hs.len).symm⟩)
  | dic ks l =>
    obtain ⟨p, kvs, rfl, hp, hk, hs⟩ := h
    cases e
    refine .inr (.inr ⟨kvs, hp, ?_⟩)
    rw [← hk]
    cases kvs <;> rfl
  | _ => cases e
theorem gT_ok : ∀ σ H Q, tT Γ F W (gT f) σ H Q → tE Γ F W f σ H fun x H' => ∃ k, TruV X.K x H' k ∧ Q k H' := by
  rintro σ H Q ⟨T, S, rep, h⟩
  refine ⟨T, S, rep, h.bind.mono fun a h1 x H1 rep1 => ?_⟩
  obtain ⟨z, hz, k⟩ := h1.lift
  obtain ⟨M, r1⟩ := rep1
  cases e1 : peek a.2 a.1 with
  | none => simp [e1] at hz
  | some d =>
    cases e2 : tru d with
    | none => simp [e1, e2] at hz
    | some b =>
      simp only [e1, e2, Option.bind_some, Option.map_some, Option.some.injEq] at hz
      subst hz
      exact ⟨b, tru_at (r1.at_ List.mem_cons_self e1) e2, k H1 ⟨M, r1.drop⟩⟩
/-- any expression as a test, by truth -/
theorem dt_e (h : DE X Γ F W e f) (he : ∀ whole, isTrue e X.env whole = (do let v ← whole; standAt e.pos; holding [v] (truthy v)) := by intro _; rfl) : DT X Γ F W e (gT f) := PT.mono (pt_truth h he) gT_ok
/-- one that gives True or False -/
theorem dt_b (h : DE X Γ F W e f) (he : ∀ whole, isTrue e X.env whole = (do let v ← whole; standAt e.pos; holding [v] (truthy v)) := by intro _; rfl) : DT X Γ F W e (gB f) := PT.mono (pt_val h he) gB_ok
theorem dt_cmp {op : CmpOp} {sem : D → D → Option Sl} (ho : OpD X Γ (compareOp op) sem) (ha : DE X Γ F W a fa) (hb : DE X Γ F W b fb) (hm : behindInMarks op b = false) : DT X Γ F W (.Compare a [op] [b] pos) (gB (fB sem fa fb)) := by
  obtain ⟨R, h1, h2⟩ := ho
  exact PT.mono (pt_cmpR h1 ha hb hm) fun σ H Q q => fB_ok h2 σ H _ (gB_ok σ H Q q)
def gNot (g : Tf) : Tf := fun S => (g S).bind fun a => .ok (!a.1, a.2)
theorem dt_not (h : DT X Γ F W a g) : DT X Γ F W (.UnaryOp .Not a pos) (gNot g) := PT.mono (pt_not h) fun σ H Q ⟨T, S, rep, k⟩ => ⟨T, S, rep, k.bind⟩
def gAnd (g g' : Tf) : Tf := fun S => (g S).bind fun a => if a.1 = true then g' a.2 else .ok (false, a.2)
def gOr (g g' : Tf) : Tf := fun S => (g S).bind fun a => if a.1 = true then .ok (true, a.2) else g' a.2
theorem dw_and1 (h : DT X Γ F W a g) : DW X Γ F W (.BoolOp .And [a] pos) g := pw_and1 h
theorem dw_or1 (h : DT X Γ F W a g) : DW X Γ F W (.BoolOp .Or [a] pos) g := pw_or1 h
theorem dw_and (h : DT X Γ F W a g) (h' : DW X Γ F W (.BoolOp .And (b :: rest) pos) g') : DW X Γ F W (.BoolOp .And (a :: b :: rest) pos) (gAnd g g') := PW.mono (pw_and h h') fun σ H Q ⟨T, S, rep, k⟩ => ⟨T, S, rep, k.bind.mono fun a q H1 rep1 => by
  cases e : a.1 with
  | true =>
    rw [e, if_pos rfl] at q
    rw [if_pos rfl]
    exact ⟨T, a.2, rep1, q⟩
  | false =>
    rw [e, if_neg Bool.false_ne_true] at q
    rw [if_neg Bool.false_ne_true]
    exact q H1 rep1⟩
theorem dw_or (h : DT X Γ F W a g) (h' : DW X Γ F W (.BoolOp .Or (b :: rest) pos) g') : DW X Γ F W (.BoolOp .Or (a :: b :: rest) pos) (gOr g g') := PW.mono (pw_or h h') fun σ H Q ⟨T, S, rep, k⟩ => ⟨T, S, rep, k.bind.mono fun a q H1 rep1 => by
  cases e : a.1 with
  | true =>
    rw [e, if_pos rfl] at q
    rw [if_pos rfl]
    exact q H1 rep1
  | false =>
    rw [e, if_neg Bool.false_ne_true] at q
    rw [if_neg Bool.false_ne_true]
    exact ⟨T, a.2, rep1, q⟩⟩
theorem dt_w (h : DW X Γ F W e g) : DT X Γ F W e g := PW.pt h
/-! as values -/
def fAnd (fa fb : Ef) : Ef := fun S => (fa S).bind fun a => match blOf a.1 with
  | some true => fb a.2
  | some false => .ok (.va (.bl false), a.2)
  | none => .no
def fOr (fa fb : Ef) : Ef := fun S => (fa S).bind fun a => match blOf a.1 with
  | some false => fb a.2
  | some true => .ok (.va (.bl true), a.2)
  | none => .no
theorem de_one {op} (h : DE X Γ F W a fa) : DE X Γ F W (.BoolOp op [a] pos) fa := pe_one h
theorem de_and (ha : DE X Γ F W a fa) (hb : DE X Γ F W (.BoolOp .And (b :: rest) pos) fb) : DE X Γ F W (.BoolOp .And (a :: b :: rest) pos) (fAnd fa fb) := PE.mono (pe_and ha hb) fun σ H Q ⟨T, S, rep, k⟩ => ⟨T, S, rep, k.bind.mono fun a q x H1 ⟨M, r1⟩ => by
  cases e : blOf a.1 with
  | none =>
    rw [e] at q
    exact q.elim
  | some b =>
    rw [e] at q
    refine ⟨b, blOf_at r1 e, ?_⟩
    cases b with
    | true =>
      rw [if_pos rfl]
      exact ⟨T, a.2, ⟨M, r1.drop⟩, q⟩
    | false =>
      rw [if_neg Bool.false_ne_true]
      exact q _ H1 ⟨M, r1.drop.push rfl⟩⟩
theorem de_or (ha : DE X Γ F W a fa) (hb : DE X Γ F W (.BoolOp .Or (b :: rest) pos) fb) : DE X Γ F W (.BoolOp .Or (a :: b :: rest) pos) (fOr fa fb) := PE.mono (pe_or ha hb) fun σ H Q ⟨T, S, rep, k⟩ => ⟨T, S, rep, k.bind.mono fun a q x H1 ⟨M, r1⟩ => by
  cases e : blOf a.1 with
  | none =>
    rw [e] at q
    exact q.elim
  | some b =>
    rw [e] at q
    refine ⟨b, blOf_at r1 e, ?_⟩
    cases b with
    | false =>
      rw [if_neg Bool.false_ne_true]
      exact ⟨T, a.2, ⟨M, r1.drop⟩, q⟩
    | true =>
      rw [if_pos rfl]
      exact q _ H1 ⟨M, r1.drop.push rfl⟩⟩
def fNot (fa : Ef) : Ef := fun S => (fa S).bind fun a => lift ((blOf a.1).map fun b => (.va (.bl !b), a.2))
theorem de_not (ha : DE X Γ F W a fa) : DE X Γ F W (.UnaryOp .Not a pos) (fNot fa) := PE.mono (pe_not ha) fun σ H Q ⟨T, S, rep, k⟩ => ⟨T, S, rep, k.bind.mono fun a q x H1 ⟨M, r1⟩ => by
  obtain ⟨z, hz, k⟩ := q.lift
  cases e : blOf a.1 with
  | none => simp [e] at hz
  | some b =>
    simp only [e, Option.map_some, Option.some.injEq] at hz
    subst hz
    exact ⟨b, blOf_at r1 e, k _ H1 ⟨M, r1.drop.push rfl⟩⟩⟩
def fIf (g : Tf) (fa fb : Ef) : Ef := fun S => (g S).bind fun a => if a.1 = true then fa a.2 else fb a.2
theorem de_if (hg : DT X Γ F W c g) (ha : DE X Γ F W a fa) (hb : DE X Γ F W b fb) : DE X Γ F W (.IfExp c a b pos) (fIf g fa fb) := PE.mono (pe_ifExp hg ha hb) fun σ H Q ⟨T, S, rep, k⟩ => ⟨T, S, rep, k.bind.mono fun a q H1 rep1 => by
  cases e : a.1 with
  | true =>
    rw [e, if_pos rfl] at q
    rw [if_pos rfl]
    exact ⟨T, a.2, rep1, q⟩
  | false =>
    rw [e, if_neg Bool.false_ne_true] at q
    rw [if_neg Bool.false_ne_true]
    exact ⟨T, a.2, rep1, q⟩⟩
/-- a op b op' c -/
def fCh (sem sem' : D → D → Option Sl) (fa fb fc : Ef) : Ef := fun S => (fa S).bind fun a => (fb a.2).bind fun b => (lift ((peek b.2 a.1).bind fun d => (peek b.2 b.1).bind fun e => (sem d e).bind blOf)).bind fun k =>
  if k = true then (fc b.2).bind fun c => lift ((peek c.2 b.1).bind fun d => (peek c.2 c.1).bind fun e => (sem' d e).map fun r => (r, c.2)) else .ok (.va (.bl false), b.2)
theorem fCh_ok {sem sem' : D → D → Option Sl} {R R' : R2} (ho : ∀ (H M : Hp) (x y : V) (d e : D) (r : Sl) (Q : VK), Same M H → AtT Γ H M d x → AtT Γ H M e y → sem d e = some r → (∀ v H', Post Γ H M r v H' → Q v H') → R x y H Q)
    (ho' : ∀ (H M : Hp) (x y : V) (d e : D) (r : Sl) (Q : VK), Same M H → AtT Γ H M d x → AtT Γ H M e y → sem' d e = some r → (∀ v H', Post Γ H M r v H' → Q v H') → R' x y H Q) :
    ∀ σ H Q, tE Γ F W (fCh sem sem' fa fb fc) σ H Q → tChain R R' (tE Γ F W fa) (tE Γ F W fb) (tE Γ F W fc) σ H Q := by
  rintro σ H Q ⟨T, S, rep, h⟩
  refine ⟨T, S, rep, h.bind.mono fun a h1 x H1 rep1 => ⟨_, _, rep1, h1.bind.mono fun b h2 y H2 rep2 => ?_⟩⟩
  obtain ⟨k, hk, q⟩ := h2.bind.lift
  obtain ⟨M, r2⟩ := rep2
  cases e1 : peek b.2 a.1 with
  | none => simp [e1] at hk
  | some d =>
    cases e2 : peek b.2 b.1 with
    | none => simp [e1, e2] at hk
    | some e =>
      cases e3 : sem d e with
      | none => simp [e1, e2, e3] at hk
      | some r =>
        simp only [e1, e2, e3, Option.bind_some] at hk
        refine ho H2 M x y d e r _ r2.sub (r2.at_ (List.mem_cons_of_mem _ List.mem_cons_self) e1) (r2.at_ List.mem_cons_self e2) e3 fun v H3 p => ?_
        obtain ⟨M3, r3⟩ := r2.drop1.post p
        refine ⟨k, blOf_at r3 hk, ?_⟩
        have rep3 : Rep Γ F ((b.1, some y) :: T) b.2 σ H3 := ⟨M3, r3.drop⟩
        cases k with
        | false =>
          rw [if_neg Bool.false_ne_true] at q ⊢
          exact q _ H3 ⟨M3, r3.drop.drop.push rfl⟩
        | true =>
          rw [if_pos rfl] at q ⊢
          refine ⟨_, _, rep3, q.bind.mono fun c h3 w H4 rep4 => ?_⟩
          obtain ⟨z, hz, kk⟩ := h3.lift
          obtain ⟨M4, r4⟩ := rep4
          cases f1 : peek c.2 b.1 with
          | none => simp [f1] at hz
          | some d' =>
            cases f2 : peek c.2 c.1 with
            | none => simp [f1, f2] at hz
            | some e' =>
              cases f3 : sem' d' e' with
              | none => simp [f1, f2, f3] at hz
              | some r' =>
                simp only [f1, f2, f3, Option.bind_some, Option.map_some, Option.some.injEq] at hz
                subst hz
                exact ho' H4 M4 y w d' e' r' Q r4.sub (r4.at_ (List.mem_cons_of_mem _ List.mem_cons_self) f1) (r4.at_ List.mem_cons_self f2) f3 fun v H' p => kk v H' (r4.drop.drop.post p)
theorem de_ch {op op' : CmpOp} {sem sem' : D → D → Option Sl} (ho : OpD X Γ (compareOp op) sem) (ho' : OpD X Γ (compareOp op') sem') (ha : DE X Γ F W a fa) (hb : DE X Γ F W b fb) (hc : DE X Γ F W c fc)
    (hm : lastMarks [op, op'] [b, c] = false := by with_unfolding_all rfl) : DE X Γ F W (.Compare a [op, op'] [b, c] pos) (fCh sem sem' fa fb fc) := by
  obtain ⟨R, h1, h2⟩ := ho
  obtain ⟨R', h1', h2'⟩ := ho'
  exact PE.mono (pe_chain h1 h1' ha hb hc hm) (fCh_ok h2 h2')
theorem dt_ch {op op' : CmpOp} {sem sem' : D → D → Option Sl} (ho : OpD X Γ (compareOp op) sem) (ho' : OpD X Γ (compareOp op') sem') (ha : DE X Γ F W a fa) (hb : DE X Γ F W b fb) (hc : DE X Γ F W c fc)
    (hm : lastMarks [op, op'] [b, c] = false := by with_unfolding_all rfl) : DT X Γ F W (.Compare a [op, op'] [b, c] pos) (gB (fCh sem sem' fa fb fc)) := by
  obtain ⟨R, h1, h2⟩ := ho
  obtain ⟨R', h1', h2'⟩ := ho'
  exact PT.mono (pt_chain h1 h1' ha hb hc hm) fun σ H Q q => fCh_ok h2 h2' σ H _ (gB_ok σ H Q q)

/-! ### argument lists, displays -/
abbrev Af := List Sl → Rs (List D × List Sl)
def tA (Γ : Ct) (F : Fr) (W : WX) (g : Af) : TA := fun σ H Q => ∃ T S, Rep Γ F T S σ H ∧ Ok3 Γ F W σ (g S) fun a => ∀ vs H' M, RepM Γ F M T a.2 σ H' → Ats Γ M a.1 vs → Q vs H'
def DA (X : Cx) (Γ : Ct) (F : Fr) (W : WX) (es : List Expr) (g : Af) : Prop := PA X es (tA Γ F W g)
def aNil : Af := fun S => .ok ([], S)
def aCons (f : Ef) (g : Af) : Af := fun S => (f S).bind fun a => (lift (fz a.2 a.1)).bind fun b => (g b.2).bind fun c => .ok (b.1 :: c.1, c.2)
theorem da_nil : DA X Γ F W [] aNil := PA.mono pa_nil fun σ H Q ⟨T, S, ⟨M, r⟩, k⟩ => k [] H M r rfl
theorem tA_cons {g : Af} : ∀ σ H Q, tA Γ F W (aCons fa g) σ H Q → tCons (tE Γ F W fa) (tA Γ F W g) σ H Q := by
  rintro σ H Q ⟨T, S, rep, h⟩
  refine ⟨T, S, rep, h.bind.mono fun a h1 x H1 ⟨M, r1⟩ => ?_⟩
  obtain ⟨z, hz, k⟩ := h1.bind.lift
  obtain ⟨M', hx, _, r2⟩ := r1.fz hz
  refine ⟨_, _, ⟨M', r2⟩, k.bind.mono fun c h2 vs H' M2 r3 hs => ?_⟩
  obtain ⟨x', ex, hx'⟩ := r3.allT _ List.mem_cons_self
  cases ex
  exact h2 (x :: vs) H' M2 r3.drop ⟨x, vs, rfl, hx', hs⟩
theorem da_cons {es : List Expr} {g : Af} (ha : DE X Γ F W e fa) (hr : DA X Γ F W es g) (hs : starEach (e :: es) X.env = (false, eval e X.env) :: starEach es X.env := by rfl) : DA X Γ F W (e :: es) (aCons fa g) := PA.mono (pa_cons ha hr hs) tA_cons
def fL (g : Af) : Ef := fun S => (g S).bind fun a => if a.1.length ≤ 100000 then .ok (.ow 0 (.lst a.1), a.2) else .no
def fTu (g : Af) : Ef := fun S => (g S).bind fun a => if a.1.length ≤ 100000 then .ok (.va (.tup a.1), a.2) else .no
theorem de_lst {es : List Expr} {g : Af} (h : DA X Γ F W es g) : DE X Γ F W (.List es pos) (fL g) := PE.mono (pe_lst h) fun σ H Q ⟨T, S, rep, k⟩ => ⟨T, S, rep, k.bind.mono fun a q vs H1 M r hs => by
  split at q
  · rename_i hl
    refine ⟨by rw [hs.len]; exact Evl.sz_of hl, fun p hp => q _ _ ?_⟩
    exact r.post ⟨M, Grow.own r.sub hp, p, rfl, hp, r.sub.free hp, vs, upd_same, hs⟩
  · exact q.elim⟩
theorem de_tup {x1} {es : List Expr} {g : Af} (h : DA X Γ F W es g) : DE X Γ F W (.Tuple es x1 pos) (fTu g) := PE.mono (pe_tup h) fun σ H Q ⟨T, S, rep, k⟩ => ⟨T, S, rep, k.bind.mono fun a q vs H1 M r hs => by
  split at q
  · rename_i hl
    refine ⟨by rw [hs.len]; exact Evl.sz_of hl, fun p hp => q _ _ ?_⟩
    have G := Grow.new (o := .tup vs) r.sub hp
    exact r.post ⟨_, G, p, vs, rfl, upd_same, hs.ex G.m⟩
  · exact q.elim⟩

/-! ### a built-in called with one value -/
def CaD (X : Cx) (Γ : Ct) (f : Value) (sem : D → Option Sl) : Prop := ∃ R : List V → Hp → VK → Prop, CallR X f R ∧ ∀ (H M : Hp) (x : V) (d : D) (r : Sl) (Q : VK), Same M H → AtT Γ H M d x → sem d = some r → (∀ v H', Post Γ H M r v H' → Q v H') → R [x] H Q
theorem de_b1 {x : Str} {id : String} {p : Pos} {sem : D → Option Sl} (hc : CaD X Γ (.builtin id) sem) (hg : Gl X x) (hm : X.mg x = none) (hv : bootBuiltins x = some (.builtin id)) (ha : DE X Γ F W a fa) (hn : x ≠ "__name__" := by decide) (hdb : (x == ("__debug__" : Str)) = false := by decide)
    (hs : starEach [a] X.env = (false, eval a X.env) :: starEach [] X.env := by rfl) (hpl : (backTo pos (starEach [] X.env)).any (·.1) = false := by rfl) : DE X Γ F W (.Call (.Name x p) [a] [] pos) (fU sem fa) := by
  obtain ⟨R, h1, h2⟩ := hc
  exact PE.mono (pe_callB h1 hg hm hv (pa_cons ha pa_nil hs) hn hdb hs hpl) (fU_ok (R := fun x H Q => R [x] H Q) h2)
theorem de_t1 {x : Str} {id : String} {p : Pos} {sem : D → Option Sl} (hc : CaD X Γ (.type id) sem) (hg : Gl X x) (hm : X.mg x = none) (hv : bootBuiltins x = some (.type id)) (ha : DE X Γ F W a fa) (hn : x ≠ "__name__" := by decide) (hdb : (x == ("__debug__" : Str)) = false := by decide)
    (hs : starEach [a] X.env = (false, eval a X.env) :: starEach [] X.env := by rfl) (hpl : (backTo pos (starEach [] X.env)).any (·.1) = false := by rfl) : DE X Γ F W (.Call (.Name x p) [a] [] pos) (fU sem fa) := by
  obtain ⟨R, h1, h2⟩ := hc
  exact PE.mono (pe_callTy h1 hg hm hv (pa_cons ha pa_nil hs) hn hdb hs hpl) (fU_ok (R := fun x H Q => R [x] H Q) h2)
/-- two values -/
def CaD2 (X : Cx) (Γ : Ct) (f : Value) (sem : D → D → Option Sl) : Prop := ∃ R : List V → Hp → VK → Prop, CallR X f R ∧ ∀ (H M : Hp) (x y : V) (d e : D) (r : Sl) (Q : VK), Same M H → AtT Γ H M d x → AtT Γ H M e y → sem d e = some r → (∀ v H', Post Γ H M r v H' → Q v H') → R [x, y] H Q
theorem de_b2 {x : Str} {id : String} {p : Pos} {sem : D → D → Option Sl} (hc : CaD2 X Γ (.builtin id) sem) (hg : Gl X x) (hm : X.mg x = none) (hv : bootBuiltins x = some (.builtin id)) (ha : DE X Γ F W a fa) (hb : DE X Γ F W b fb) (hn : x ≠ "__name__" := by decide) (hdb : (x == ("__debug__" : Str)) = false := by decide)
    (hs : starEach [a, b] X.env = (false, eval a X.env) :: starEach [b] X.env := by rfl) (hs2 : starEach [b] X.env = (false, eval b X.env) :: starEach [] X.env := by rfl) (hpl : (backTo pos (starEach [b] X.env)).any (·.1) = false := by rfl) : DE X Γ F W (.Call (.Name x p) [a, b] [] pos) (fB sem fa fb) := by
  obtain ⟨R, h1, h2⟩ := hc
  exact PE.mono (pe_callB h1 hg hm hv (pa_cons ha (pa_cons hb pa_nil hs2) hs) hn hdb hs hpl) (fB_ok (R := fun x y H Q => R [x, y] H Q) h2)
end
end Mi

namespace Fu
open PySem L2
def topS (i : Nat) : Stmt := PySem.Challenge.pw_fusenets_k14_nets_and_points_refused.main.body.getD i (.Pass ⟨0, 0, 0, 0⟩)
abbrev s_wall : Stmt := topS 0
abbrev sInvNum : Stmt := inClass (topS 3) 0
abbrev sInvalidNet_init : Stmt := inClass (topS 4) 0
abbrev sInvalidPoint_init : Stmt := inClass (topS 5) 0
abbrev sInvalidLights_init : Stmt := inClass (topS 6) 0
abbrev sIsInt : Stmt := topS 8
abbrev sGcd : Stmt := topS 9
abbrev sInit : Stmt := inClass (topS 10) 0
abbrev sRatio_top : Stmt := inClass (topS 10) 1
abbrev sBot : Stmt := inClass (topS 10) 2
abbrev sRatio_add : Stmt := inClass (topS 10) 3
abbrev sRatio_radd : Stmt := inClass (topS 10) 4
abbrev sRatio_sub : Stmt := inClass (topS 10) 5
abbrev sRatio_rsub : Stmt := inClass (topS 10) 6
abbrev sRatio_mul : Stmt := inClass (topS 10) 7
abbrev sRatio_rmul : Stmt := inClass (topS 10) 8
abbrev sRatio_neg : Stmt := inClass (topS 10) 9
abbrev sRatio_abs : Stmt := inClass (topS 10) 10
abbrev sRatio_bool : Stmt := inClass (topS 10) 11
abbrev sEq : Stmt := inClass (topS 10) 12
abbrev sRatio_lt : Stmt := inClass (topS 10) 13
abbrev sRatio_le : Stmt := inClass (topS 10) 14
abbrev sRatio_gt : Stmt := inClass (topS 10) 15
abbrev sRatio_ge : Stmt := inClass (topS 10) 16
abbrev sOver : Stmt := inClass (topS 10) 17
abbrev sRatio_floor : Stmt := inClass (topS 10) 18
abbrev sRatio_str : Stmt := inClass (topS 10) 19
abbrev sRepr : Stmt := inClass (topS 10) 20
abbrev sIsNum : Stmt := topS 11
abbrev sParts : Stmt := topS 12
abbrev s_ratio_of : Stmt := topS 13
abbrev s_least_of : Stmt := topS 14
abbrev s_greatest_of : Stmt := topS 15
abbrev s_half_of : Stmt := topS 16
abbrev s_ascending : Stmt := topS 17
abbrev s_is_name : Stmt := topS 23
abbrev s_is_positive : Stmt := topS 24
abbrev s_are_nodes : Stmt := topS 25
abbrev s_is_fuse : Stmt := topS 26
abbrev sNet_init : Stmt := inClass (topS 27) 0
abbrev sNet_nodes : Stmt := inClass (topS 27) 1
abbrev sNet_fuses : Stmt := inClass (topS 27) 2
abbrev sNet_length : Stmt := inClass (topS 27) 3
abbrev sNet_contains : Stmt := inClass (topS 27) 4
abbrev sNet_mul : Stmt := inClass (topS 27) 5
abbrev sNet_eq : Stmt := inClass (topS 27) 6
abbrev sNet_len : Stmt := inClass (topS 27) 7
abbrev sNet_is_point : Stmt := inClass (topS 27) 8
abbrev sNet_point : Stmt := inClass (topS 27) 9
abbrev sNet_place_of : Stmt := inClass (topS 27) 10
abbrev sNet_distance : Stmt := inClass (topS 27) 11
abbrev sNet_is_connected : Stmt := inClass (topS 27) 12
abbrev sNet_is_tree : Stmt := inClass (topS 27) 13
abbrev s_offers : Stmt := topS 28
abbrev s_node_times : Stmt := topS 29
abbrev s_time_at : Stmt := topS 30
abbrev s_check_lights : Stmt := topS 33
abbrev s_order_of : Stmt := topS 34
abbrev s_is_before : Stmt := topS 35
abbrev s_in_order : Stmt := topS 36
abbrev sFire_init : Stmt := inClass (topS 37) 0
abbrev sFire_light_anew : Stmt := inClass (topS 37) 1
abbrev sFire_net : Stmt := inClass (topS 37) 2
abbrev sFire_lights : Stmt := inClass (topS 37) 3
abbrev sFire_time_of : Stmt := inClass (topS 37) 4
abbrev sFire_call : Stmt := inClass (topS 37) 5
abbrev sFire_times : Stmt := inClass (topS 37) 6
abbrev sFire_source : Stmt := inClass (topS 37) 7
abbrev sFire_spans : Stmt := inClass (topS 37) 8
abbrev sFire_end : Stmt := inClass (topS 37) 9
abbrev sFire_last : Stmt := inClass (topS 37) 10
abbrev sFire_meetings : Stmt := inClass (topS 37) 11
abbrev s_last_time : Stmt := topS 38
abbrev s_reach : Stmt := topS 40
abbrev sPool : Stmt := topS 42
abbrev sTake : Stmt := topS 43
abbrev s_law_net_told : Stmt := topS 44
abbrev s_law_point_told : Stmt := topS 45
abbrev s_law_bad_fuses : Stmt := topS 46
abbrev sLaw : Stmt := topS 47
end Fu

namespace Fu
open PySem L2
open PyProof.Rows hiding St
def isInt : D → Bool
  | .int _ => true
  | _ => false
/-- names that are still the built-ins' -/
structure Bt (mg : Str → Option Value) : Prop where
  isi : mg "isinstance" = none
  int : mg "int" = none
  bool : mg "bool" = none
  abs : mg "abs" = none
/-- the class Ratio and what isinstance says of it -/
structure RatC (K : PySem.W.Frag) (C : Addr) : Prop where
  ci : ClsI K C
  kInt : PySem.W.kitOne K (.ref C) (.type "int") = some false
  kBool : PySem.W.kitOne K (.ref C) (.type "bool") = some false
  nT : NoAttr K C "own_top"
  nB : NoAttr K C "own_bottom"
section
variable {P : Program} {w : World} {K : PySem.W.Frag} {mg : Str → Option Value} {base : Heap} {C : Addr}
def isI : D → Bool
  | .int _ => true
  | .bl _ => true
  | _ => false
def isB : D → Bool
  | .bl _ => true
  | _ => false
theorem kit_b {a b : String} {r : Bool} (h : kitB a b = some r) : PySem.W.kitOne K (.type a) (.type b) = some r := h
theorem kit_int (R : RatC K C) : ∀ d : D, PySem.W.kitOne K (tyD C d) (.type "int") = some (isI d)
  | .non => kit_b (r := false) (by decide +kernel)
  | .bl _ => kit_b (r := true) (by decide +kernel)
  | .int _ => kit_b (r := true) (by decide +kernel)
  | .str _ => kit_b (r := false) (by decide +kernel)
  | .lst _ => kit_b (r := false) (by decide +kernel)
  | .tup _ => kit_b (r := false) (by decide +kernel)
  | .dic => kit_b (r := false) (by decide +kernel)
  | .rat _ _ => R.kInt
theorem kit_bool (R : RatC K C) : ∀ d : D, PySem.W.kitOne K (tyD C d) (.type "bool") = some (isB d)
  | .non => kit_b (r := false) (by decide +kernel)
  | .bl _ => kit_b (r := true) (by decide +kernel)
  | .int _ => kit_b (r := false) (by decide +kernel)
  | .str _ => kit_b (r := false) (by decide +kernel)
  | .lst _ => kit_b (r := false) (by decide +kernel)
  | .tup _ => kit_b (r := false) (by decide +kernel)
  | .dic => kit_b (r := false) (by decide +kernel)
  | .rat _ _ => R.kBool
theorem isInt_eq (d : D) : isInt d = (isI d && !isB d) := by cases d <;> rfl
/-! ### is_integer -/
def spIsInt (C : Addr) : Sp := fun vs H Q _ => ∃ (d : D) (v : V), vs = [v] ∧ At C H d v ∧ Q (.bl (isInt d)) H
theorem scIsInt : FnScope ["value"] ["value"] (defScope sIsInt) := ⟨rfl, rfl, rfl, by decide +kernel, rfl, by decide +kernel, by decide +kernel⟩
theorem ok_isInt {f : Addr} {fd : FuncData} (F : Fun K "is_integer" "is_integer" sIsInt f fd) (B : Bt mg) (R : RatC K C) : FnOk P w K mg base CX0 1 f fd ["value"] (spIsInt C) := by
  refine F.ok scIsInt (fun vs H Q E h => ?_) (fun cdv A outer s H vs Q E hr h => ?_)
  · obtain ⟨d, v, rfl, _⟩ := h
    rfl
  · obtain ⟨d, v, rfl, a, k⟩ := h
    refine ⟨_, pss_one (ps_ret (pe_and (pe_callB call_isi (by rfl) B.isi (by decide +kernel) (pa_cons (pv 0) (pa_cons (pe_bltn (v := .ty "int") (by rfl) B.int (by decide +kernel) rfl) pa_nil)))
      (pe_one (pe_not (pe_callB call_isi (by rfl) B.isi (by decide +kernel) (pa_cons (pv 0) (pa_cons (pe_bltn (v := .ty "bool") (by rfl) B.bool (by decide +kernel) rfl) pa_nil))))))), ?_⟩
    refine ⟨_, rfl, _, _, _, _, _, rfl, .ty "int", ty_at R.ci a, kit_int R d, _, rfl, ?_⟩
    rw [isInt_eq] at k
    cases h : isI d with
    | false =>
      rw [h] at k
      exact iteF k
    | true =>
      rw [h] at k
      exact iteT ⟨_, rfl, _, _, _, _, _, rfl, .ty "bool", ty_at R.ci a, kit_bool R d, _, rfl, k⟩
/-! ### common_divisor -/
theorem fmod_lt {i j : Int} (h : j ≠ 0) : (i.fmod j).natAbs < j.natAbs := by
  rcases Int.lt_or_gt_of_ne h with hj | hj
  · rw [Int.fmod_eq_emod]
    have h1 := Int.emod_nonneg i h
    have h2 := Int.emod_lt i h
    split
    · omega
    · rename_i z
      have h3 : ¬ i % j = 0 := fun q => z (.inr (Int.dvd_of_emod_eq_zero q))
      omega
  · have h1 := Int.fmod_nonneg_of_pos i hj
    have h2 := Int.fmod_lt_of_pos i hj
    omega
theorem gcd_fmod (i j : Int) : Int.gcd j (i.fmod j) = Int.gcd i j := by
  rw [Int.fmod_def, Int.gcd_sub_mul_left_right, Int.gcd_comm]
theorem gcd_zero_abs (i : Int) : (if i < 0 then -i else i) = (Int.gcd i 0 : Int) := by
  rw [Int.gcd_zero_right]
  split <;> omega
def spGcd : Sp := fun vs H Q _ => ∃ (i j : Int), vs = [.int i, .int j] ∧ Q (.int (Int.gcd i j)) H
theorem scGcd : FnScope ["one", "other"] ["one", "other"] (defScope sGcd) := ⟨rfl, rfl, rfl, by decide +kernel, rfl, by decide +kernel, by decide +kernel⟩
theorem ok_gcd {f : Addr} {fd : FuncData} (F : Fun K "common_divisor" "common_divisor" sGcd f fd) (B : Bt mg) : FnOk P w K mg base CX0 1 f fd ["one", "other"] spGcd := by
  refine F.ok scGcd (fun vs H Q E h => ?_) (fun cdv A outer s H vs Q E hr h => ?_)
  · obtain ⟨i, j, rfl, _⟩ := h
    rfl
  · obtain ⟨i, j, rfl, k⟩ := h
    refine ⟨_, pss_cons (ps_while PassesOwn.never (pt_cmpR op_ne (pv 1) pe_int (nomark _))
        (pss_one (ps_par rfl scGcd.nd (i := 0) (j := 1) rfl rfl (by decide) rfl rfl (pa_cons (pv 1) (pa_cons (pe_op op_modN (pv 0) (pv 1)) pa_nil)) (by rfl))))
      (pss_one (ps_ret (pe_callB call_abs (by rfl) B.abs (by decide +kernel) (pa_cons (pv 0) pa_nil)))), ?_⟩
    refine while_by (fun σ H' => H' = H ∧ ∃ a b : Int, σ = [some (.int a), some (.int b)] ∧ Int.gcd a b = Int.gcd i j)
      (fun σ _ => match σ with | [_, some (.int b)] => b.natAbs | _ => 0) ⟨rfl, i, j, rfl, rfl⟩ ?_ ?_
    · rintro σ H' ⟨rfl, a, b, rfl, e⟩
      refine ⟨_, rfl, rfl, _, rfl, ?_⟩
      by_cases hb : b = 0
      · subst hb
        refine iteNS rfl ?_
        refine ⟨_, rfl, _, rfl, ?_⟩
        rw [gcd_zero_abs, e]
        exact k
      · refine if_true_of (by simp [hb]) ?_
        refine ⟨_, rfl, _, rfl, _, rfl, _, _, rfl, rfl, hb, _, _, rfl, ⟨rfl, b, a.fmod b, rfl, ?_⟩, fmod_lt hb⟩
        rw [gcd_fmod]
        exact e
    · rintro σ H' Q1 Q2 m ⟨v, e, h1, b, hb, h2⟩
      exact ⟨v, e, h1, b, hb, m _ _ h2⟩
/-! ### Ratio's __init__ -/
/-- the divisor, the parts in lowest terms -/
def dv (n m : Int) : Int := if m < 0 then -(Int.gcd n m : Int) else Int.gcd n m
def rN (n m : Int) : Int := n.fdiv (dv n m)
def rD (n m : Int) : Int := m.fdiv (dv n m)
theorem dv_ne {n m : Int} (h : m ≠ 0) : dv n m ≠ 0 := by
  have h1 : Int.gcd n m ≠ 0 := fun e => h (Int.gcd_eq_zero_iff.mp e).2
  unfold dv
  split <;> omega
theorem dv_abs {n m : Int} (h : m ≠ 0) : (dv n m).natAbs ≤ m.natAbs := by
  have h1 : Int.gcd n m ∣ m.natAbs := Int.gcd_dvd_natAbs_right n m
  have h2 := Nat.le_of_dvd (by omega) h1
  unfold dv
  split <;> omega
theorem log2_mono {a b : Nat} (h : a ≤ b) : a.log2 ≤ b.log2 := by
  by_cases ha : a = 0
  · subst ha
    simp
  · exact (Nat.le_log2 (by omega)).mpr (Nat.le_trans (Nat.log2_self_le ha) h)
theorem dv_small {n m : Int} (h : m ≠ 0) (hm : m.natAbs.log2 < 9000) : (dv n m).natAbs.log2 < 9000 := Nat.lt_of_le_of_lt (log2_mono (dv_abs h)) hm
/-- the class InvalidNumber, its __init__ -/
structure IN (P : Program) (w : World) (K : PySem.W.Frag) (mg : Str → Option Value) (base : Heap) (CI fX : Addr) (fdX : FuncData) : Prop where
  e : ErrC K mg "InvalidNumber" "value" CI fX
  ok : FnOk P w K mg base CX0 1 fX fdX ["self", "value"] (spX CI "value")
  b : Binds K fdX ["self", "value"] []
def spInit (C CI : Addr) : Sp := fun vs H Q E => ∃ (x dx : Addr) (vt vb : V) (dt db : D), vs = [.ref x, vt, vb] ∧ H x = some (.ins C dx []) ∧ At C H dt vt ∧ At C H db vb ∧
  (isInt dt = false → ∀ d, H d = none → E (.ref CI) (some d) (upd H d (.xd [("value", vt)]))) ∧
  (isInt dt = true → (isInt db = false ∨ db = .int 0) → ∀ d, H d = none → E (.ref CI) (some d) (upd H d (.xd [("value", vb)]))) ∧
  (∀ n m, dt = .int n → db = .int m → m ≠ 0 → m.natAbs.log2 < 9000 ∧ Q .non (upd H x (.ins C dx (rf (rN n m) (rD n m)))))
theorem isInt_int {d : D} (h : isInt d = true) : ∃ n, d = .int n := by
  cases d <;> first | exact ⟨_, rfl⟩ | cases h
theorem scInit : FnScope ["self", "top", "bottom", "divisor"] ["self", "top", "bottom"] (defScope sInit) := ⟨rfl, rfl, rfl, by decide +kernel, rfl, by decide +kernel, by decide +kernel⟩
theorem ok_init {f f1 f2 CI fX : Addr} {fd fd1 fd2 fdX : FuncData} (F : FunD K "__init__" "Ratio.__init__" (defArgs sInit) (defBody sInit) (defScope sInit) [.int 1] [] f fd) (B : Bt mg) (R : RatC K C) (I : IN P w K mg base CI fX fdX)
    (G1 : Def P w K mg base CX0 1 "is_integer" ["value"] (spIsInt C) f1 fd1) (G2 : Def P w K mg base CX0 1 "common_divisor" ["one", "other"] spGcd f2 fd2) :
    FnOk P w K mg base (L2.CX P w) 3 f fd ["self", "top", "bottom"] (spInit C CI) := by
  refine F.ok scInit (fun vs H Q E h => ?_) (fun cdv A outer s H vs Q E hr h => ?_)
  · obtain ⟨x, dx, vt, vb, dt, db, rfl, _⟩ := h
    rfl
  · obtain ⟨x, dx, vt, vb, dt, db, rfl, hx, at1, at2, e1, e2, k⟩ := h
    have hr1 := hr.mono (show 1 ≤ 2 by decide)
    refine ⟨_, pss_cons (ps_if (pt_not (pt_val (pe_def G1 hr1 (pa_cons (pv 1) pa_nil)))) (pss_one (ps_raiseX rfl I.e I.ok hr I.b pass0 (takes_of rfl rfl rfl rfl) (pv 1) (tVar_mono 1))) pss_nil)
      (pss_cons (ps_if (PW.pt (pw_or (pt_not (pt_val (pe_def G1 hr1 (pa_cons (pv 2) pa_nil)))) (pw_or1 (pt_cmpR op_eq (pv 2) pe_int (nomark _))))) (pss_one (ps_raiseX rfl I.e I.ok hr I.b pass0 (takes_of rfl rfl rfl rfl) (pv 2) (tVar_mono 2))) pss_nil)
      (pss_cons (ps_set (i := 3) scInit.nd rfl (Or.inl rfl) (pe_def G2 hr1 (pa_cons (pv 1) (pa_cons (pv 2) pa_nil))))
      (pss_cons (ps_if (pt_cmpR op_lt (pv 2) pe_int (nomark _)) (pss_one (ps_set (i := 3) scInit.nd rfl (Or.inl rfl) (pe_un un_neg (pv 3)))) pss_nil)
      (pss_cons (ps_fld (pv 0) (pe_op op_fdivB (pv 1) (pv 3)) rfl)
      (pss_one (ps_fld (pv 0) (pe_op op_fdivB (pv 2) (pv 3)) rfl)))))), ?_⟩
    refine ⟨_, rfl, dt, vt, rfl, at1, _, rfl, ?_⟩
    cases h1 : isInt dt with
    | false => exact iteT ⟨_, rfl, _, rfl, fun d hd => e1 h1 d hd⟩
    | true =>
      refine iteF ⟨_, rfl, db, vb, rfl, at2, _, rfl, ?_⟩
      cases h2 : isInt db with
      | false => exact iteT (iteT ⟨_, rfl, _, rfl, fun d hd => e2 h1 (.inl h2) d hd⟩)
      | true =>
        obtain ⟨n, rfl⟩ := isInt_int h1
        obtain ⟨m, rfl⟩ := isInt_int h2
        obtain rfl : vt = .int n := at1
        obtain rfl : vb = .int m := at2
        refine iteF ⟨_, rfl, rfl, _, rfl, ?_⟩
        by_cases hm : m = 0
        · subst hm
          exact if_true_of (by simp) ⟨_, rfl, _, rfl, fun d hd => e2 h1 (.inr rfl) d hd⟩
        · refine if_false_of (by simpa using hm) ?_
          obtain ⟨hl, k⟩ := k n m rfl rfl hm
          have hz := dv_ne (n := n) hm
          have hs := dv_small (n := n) hm hl
          refine ⟨_, rfl, _, rfl, n, m, rfl, _, rfl, _, _, rfl, rfl, _, rfl, ?_⟩
          have fin : ∀ z : Int, z = dv n m → tSeq (sFld K (tVar 0) (tOp (rI (fun x j => j ≠ 0 ∧ j.natAbs.log2 < 9000) fun i j => V.int (i.fdiv j)) (tVar 1) (tVar 3)) "own_top")
              (sFld K (tVar 0) (tOp (rI (fun x j => j ≠ 0 ∧ j.natAbs.log2 < 9000) fun i j => V.int (i.fdiv j)) (tVar 2) (tVar 3)) "own_bottom") { nx := fun x H' => Q V.non H', rt := Q } [some (.ref x), some (.int n), some (.int m), some (.int z)] H := by
            rintro z rfl
            refine ⟨_, rfl, _, rfl, _, _, rfl, rfl, ⟨hz, hs⟩, _, rfl, x, C, dx, [], rfl, hx, R.ci.cl, R.nT, (by show 0 < 1000; decide), ?_⟩
            refine ⟨_, rfl, _, rfl, _, _, rfl, rfl, ⟨hz, hs⟩, _, rfl, x, C, dx, _, rfl, upd_same, R.ci.cl, R.nB, (by show 1 < 1000; decide), ?_⟩
            rw [upd_upd]
            exact k
          by_cases hn : m < 0
          · refine if_true_of (by simpa using hn) ⟨_, rfl, _, rfl, ?_⟩
            exact fin _ (by unfold dv; rw [if_pos hn])
          · refine if_false_of (by simpa using hn) ?_
            exact fin _ (by unfold dv; rw [if_neg hn])
end
end Fu

namespace Fu
open PySem L2
open PyProof.Rows hiding St
def isRat : D → Bool
  | .rat _ _ => true
  | _ => false
/-- a number's parts -/
def prt : D → Option (Int × Int)
  | .int n => some (n, 1)
  | .rat n m => some (n, m)
  | _ => none
def isNum (d : D) : Bool := (prt d).isSome
/-- isinstance(v, Ratio) -/
structure RatK (K : PySem.W.Frag) (mg : Str → Option Value) (C : Addr) : Prop where
  g : mg "Ratio" = some (.ref C)
  t : ∀ T ∈ ["NoneType", "bool", "int", "str", "list", "tuple", "dict"], PySem.W.kitOne K (.type T) (.ref C) = some false
section
variable {P : Program} {w : World} {K : PySem.W.Frag} {mg : Str → Option Value} {base : Heap} {C : Addr}
theorem kit_self {t : Value} : PySem.W.kitOne K t t = some true := by
  unfold PySem.W.kitOne
  rw [if_pos (by simp)]
theorem kit_rat (R : RatK K mg C) : ∀ d : D, PySem.W.kitOne K (tyD C d) (.ref C) = some (isRat d)
  | .non => R.t _ (by decide)
  | .bl _ => R.t _ (by decide)
  | .int _ => R.t _ (by decide)
  | .str _ => R.t _ (by decide)
  | .lst _ => R.t _ (by decide)
  | .tup _ => R.t _ (by decide)
  | .dic => R.t _ (by decide)
  | .rat _ _ => kit_self
theorem isNum_eq (d : D) : isNum d = (isRat d || isInt d) := by cases d <;> rfl
/-! ### is_number -/
def spIsNum (C : Addr) : Sp := fun vs H Q _ => ∃ (d : D) (v : V), vs = [v] ∧ At C H d v ∧ Q (.bl (isNum d)) H
theorem scIsNum : FnScope ["value"] ["value"] (defScope sIsNum) := ⟨rfl, rfl, rfl, by decide +kernel, rfl, by decide +kernel, by decide +kernel⟩
theorem ok_isNum {f f1 : Addr} {fd fd1 : FuncData} (F : Fun K "is_number" "is_number" sIsNum f fd) (B : Bt mg) (R : RatC K C) (R2 : RatK K mg C) (G1 : Def P w K mg base CX0 1 "is_integer" ["value"] (spIsInt C) f1 fd1) :
    FnOk P w K mg base CX0 2 f fd ["value"] (spIsNum C) := by
  refine F.ok scIsNum (fun vs H Q E h => ?_) (fun cdv A outer s H vs Q E hr h => ?_)
  · obtain ⟨d, v, rfl, _⟩ := h
    rfl
  · obtain ⟨d, v, rfl, a, k⟩ := h
    refine ⟨_, pss_one (ps_ret (pe_or (pe_callB call_isi (by rfl) B.isi (by decide +kernel) (pa_cons (pv 0) (pa_cons (pe_glob (v := .ref C) (by rfl) R2.g rfl) pa_nil)))
      (pe_one (pe_def G1 hr (pa_cons (pv 0) pa_nil))))), ?_⟩
    refine ⟨_, rfl, _, _, _, _, _, rfl, .own C, ty_at R.ci a, kit_rat R2 d, _, rfl, ?_⟩
    rw [isNum_eq] at k
    cases h : isRat d with
    | true =>
      rw [h] at k
      exact iteT k
    | false =>
      rw [h] at k
      exact iteF ⟨_, rfl, d, v, rfl, a, k⟩
/-! ### parts_of -/
theorem rf_eq (n m : Int) : rf n m = ([("own_top", V.int n), ("own_bottom", V.int m)] : List (Str × V)) := by
  show (if ("own_top" : Str) = "own_bottom" then [(("own_top" : Str), V.int m)] else (("own_top" : Str), V.int n) :: putF "own_bottom" (V.int m) []) = ([("own_top", V.int n), ("own_bottom", V.int m)] : List (Str × V))
  rw [if_neg (by decide +kernel)]
  rfl
theorem rf_top (n m : Int) : (rf n m).lookup ("own_top" : Str) = some (V.int n) := by
  unfold rf
  rw [lookup_putF, if_neg (by decide +kernel), lookup_putF, if_pos rfl]
theorem rf_bot (n m : Int) : (rf n m).lookup ("own_bottom" : Str) = some (V.int m) := by
  unfold rf
  rw [lookup_putF, if_pos rfl]
theorem rf_no (n m : Int) {x : Str} (h1 : ¬ x = "own_top") (h2 : ¬ x = "own_bottom") : (rf n m).lookup x = none := by
  unfold rf
  rw [lookup_putF, if_neg h2, lookup_putF, if_neg h1]
  rfl
def spParts (C : Addr) : Sp := fun vs H Q _ => ∃ (d : D) (v : V) (n m : Int), vs = [v] ∧ At C H d v ∧ prt d = some (n, m) ∧ ∀ p, H p = none → Q (.ref p) (upd H p (.tup [.int n, .int m]))
theorem scParts : FnScope ["number"] ["number"] (defScope sParts) := ⟨rfl, rfl, rfl, by decide +kernel, rfl, by decide +kernel, by decide +kernel⟩
theorem ok_parts {f : Addr} {fd : FuncData} (F : Fun K "parts_of" "parts_of" sParts f fd) (B : Bt mg) (R : RatC K C) (R2 : RatK K mg C) :
    FnOk P w K mg base CX0 1 f fd ["number"] (spParts C) := by
  refine F.ok scParts (fun vs H Q E h => ?_) (fun cdv A outer s H vs Q E hr h => ?_)
  · obtain ⟨d, v, n, m, rfl, _⟩ := h
    rfl
  · obtain ⟨d, v, n, m, rfl, a, hp, k⟩ := h
    refine ⟨_, pss_one (ps_ret (pe_ifExp (pt_val (pe_callB call_isi (by rfl) B.isi (by decide +kernel) (pa_cons (pv 0) (pa_cons (pe_glob (v := .ref C) (by rfl) R2.g rfl) pa_nil))))
      (pe_tup (pa_cons (pe_fld (pv 0) rfl) (pa_cons (pe_fld (pv 0) rfl) pa_nil))) (pe_tup (pa_cons (pv 0) (pa_cons pe_int pa_nil))))), ?_⟩
    refine ⟨_, rfl, _, _, _, _, _, rfl, .own C, ty_at R.ci a, kit_rat R2 d, _, rfl, ?_⟩
    cases d with
    | int i =>
      cases hp
      obtain rfl : v = .int n := a
      exact iteF ⟨_, rfl, (by show 2 ≤ sizeLine; decide), k⟩
    | rat i j =>
      cases hp
      obtain ⟨p, dx, rfl, hp⟩ := a
      exact iteT ⟨_, rfl, p, C, dx, _, _, rfl, hp, R.ci.cl, R.nT, rf_top _ _, _, rfl, p, C, dx, _, _, rfl, hp, R.ci.cl, R.nB, rf_bot _ _, (by show 2 ≤ sizeLine; decide), k⟩
    | _ => cases hp
/-! ### == -/
/-- what == says of a Ratio n/m and d -/
def eqR (n m : Int) (d : D) : Bool := match prt d with
  | some (i, j) => n == i && m == j
  | none => false
def spEqR (C : Addr) : Sp := fun vs H Q _ => ∃ (a dx : Addr) (n m : Int) (d : D) (v : V), vs = [.ref a, v] ∧ H a = some (.ins C dx (rf n m)) ∧ At C H d v ∧ ∀ H', Same H H' → Q (.bl (eqR n m d)) H'
theorem scEq : FnScope ["self", "other"] ["self", "other"] (defScope sEq) := ⟨rfl, rfl, rfl, by decide +kernel, rfl, by decide +kernel, by decide +kernel⟩
theorem Same.new {H : Hp} {p : Addr} {o : HO} (h : H p = none) : Same H (upd H p o) := fun b u e => by
  rw [upd_ne (ne_of_none e h)]
  exact e
theorem ok_eq {f f1 f2 : Addr} {fd fd1 fd2 : FuncData} (F : Fun K "__eq__" "Ratio.__eq__" sEq f fd) (R : RatC K C) (G1 : Def P w K mg base CX0 2 "is_number" ["value"] (spIsNum C) f1 fd1) (G2 : Def P w K mg base CX0 1 "parts_of" ["number"] (spParts C) f2 fd2) :
    FnOk P w K mg base CX0 3 f fd ["self", "other"] (spEqR C) := by
  refine F.ok scEq (fun vs H Q E h => ?_) (fun cdv A outer s H vs Q E hr h => ?_)
  · obtain ⟨a, dx, n, m, d, v, rfl, _⟩ := h
    rfl
  · obtain ⟨a, dx, n, m, d, v, rfl, ha, at1, k⟩ := h
    refine ⟨_, pss_cons (ps_if (pt_not (pt_val (pe_def G1 hr (pa_cons (pv 1) pa_nil)))) (pss_one (ps_ret pe_bl)) pss_nil)
      (pss_one (ps_ret (pe_cmpR (op_eqD hr.units) (pe_tup (pa_cons (pe_fld (pv 0) rfl) (pa_cons (pe_fld (pv 0) rfl) pa_nil))) (pe_def G2 (hr.mono (by decide)) (pa_cons (pv 1) pa_nil)) (nomark _)))), ?_⟩
    refine ⟨_, rfl, d, v, rfl, at1, _, rfl, ?_⟩
    cases hp : prt d with
    | none =>
      refine if_true_of (by unfold isNum; rw [hp]; rfl) ?_
      have q := k H (Same.refl H)
      unfold eqR at q
      rw [hp] at q
      exact q
    | some ij =>
      obtain ⟨i, j⟩ := ij
      refine if_false_of (by unfold isNum; rw [hp]; rfl) ?_
      refine ⟨_, rfl, a, C, dx, _, _, rfl, ha, R.ci.cl, R.nT, rf_top _ _, _, rfl, a, C, dx, _, _, rfl, ha, R.ci.cl, R.nB, rf_bot _ _, (by show 2 ≤ sizeLine; decide), fun p np => ?_⟩
      refine ⟨_, rfl, d, v, i, j, rfl, at1.ex (Same.new np), hp, fun q nq => ?_⟩
      have hpq : (upd (upd H p (.tup [.int n, .int m])) q (.tup [.int i, .int j])) p = some (.tup [.int n, .int m]) := by
        rw [upd_ne (ne_of_none upd_same nq)]
        exact upd_same
      refine ⟨.tuple [.int n, .int m], .tuple [.int i, .int j], .tup (SqT.of hpq) (.cons (.int _) (.cons (.int _) .nil)), .tup (SqT.of upd_same) (.cons (.int _) (.cons (.int _) .nil)), rfl, rfl, ?_⟩
      have e : PyData.eqv (.tuple [.int n, .int m]) (.tuple [.int i, .int j]) = eqR n m d := by
        unfold eqR
        rw [hp]
        simp [PyData.eqv, PyData.eqvAll]
      rw [e]
      exact k _ ((Same.new np).trans (Same.new nq))
/-! ### a new Ratio -/
/-- the class with its __init__, to be called -/
structure RatM (P : Program) (w : World) (K : PySem.W.Frag) (mg : Str → Option Value) (base : Heap) (C CI f : Addr) (fd : FuncData) (ds : List Value) : Prop where
  m : Mk K C f
  ok : FnOk P w K mg base (L2.CX P w) 3 f fd ["self", "top", "bottom"] (spInit C CI)
  b2 : Binds K fd ["self", "top", "bottom"] []
  b1 : Binds K fd ["self", "top", "bottom"] ds
  d1 : Vals [.int 1] ds
/-- a promise of a new Ratio n / m behind the heap H -/
def New (C : Addr) (H : Hp) (n m : Int) (Q : VK) : Prop := ∀ (p dx : Addr) (H' : Hp), Same H H' → H p = none → H' p = some (.ins C dx (rf (rN n m) (rD n m))) → Q (.ref p) H'
theorem made_same {H : Hp} {x dx C : Addr} {fs : List (Str × V)} (nx : H x = none) (nd : H dx = none) (ne : dx ≠ x) : Same H (upd (upd (upd H dx (.own x)) x (.ins C dx [])) x (.ins C dx fs)) := fun b o e => by
  rw [upd_ne (ne_of_none e nx), upd_ne (ne_of_none e nx), upd_ne (ne_of_none e nd)]
  exact e
/-- Ratio(n, m) of ints, m not 0 -/
theorem init_int {CI x dx : Addr} {H : Hp} {n m : Int} {Q : VK} {E : XK} (nx : H x = none) (nd : H dx = none) (ne : dx ≠ x) (hm : m ≠ 0) (hl : m.natAbs.log2 < 9000) (k : New C H n m Q) :
    spInit C CI [.ref x, .int n, .int m] (upd (upd H dx (.own x)) x (.ins C dx [])) (fun v H2 => v = .non ∧ Q (.ref x) H2) E := by
  refine ⟨x, dx, _, _, .int n, .int m, rfl, upd_same, rfl, rfl, fun h => Bool.noConfusion h, fun _ h => ?_, fun n' m' e1 e2 _ => ?_⟩
  · rcases h with h | h
    · exact Bool.noConfusion h
    · cases h
      exact absurd rfl hm
  · cases e1
    cases e2
    exact ⟨hl, rfl, k x dx _ (made_same nx nd ne) nx upd_same⟩
theorem init_intR {CI x dx : Addr} {H : Hp} {n m : Int} {R : VK} {E : XK} (nx : H x = none) (nd : H dx = none) (ne : dx ≠ x) (hm : m ≠ 0) (hl : m.natAbs.log2 < 9000) (k : ∀ H', Same H H' → H' x = some (.ins C dx (rf (rN n m) (rD n m))) → R .non H') :
    spInit C CI [.ref x, .int n, .int m] (upd (upd H dx (.own x)) x (.ins C dx [])) R E := by
  refine ⟨x, dx, _, _, .int n, .int m, rfl, upd_same, rfl, rfl, fun h => Bool.noConfusion h, fun _ h => ?_, fun n' m' e1 e2 _ => ?_⟩
  · rcases h with h | h
    · exact Bool.noConfusion h
    · cases h
      exact absurd rfl hm
  · cases e1
    cases e2
    exact ⟨hl, k _ (made_same nx nd ne) upd_same⟩
/-! ### over -/
def isZero : D → Bool
  | .int i => i == 0
  | .rat i j => i == 0 && j == 1
  | _ => false
def badO (d : D) : Bool := !isNum d || isZero d
def small (n : Int) : Prop := n.natAbs.log2 < 4000
theorem log2_mul {a b : Nat} : (a * b).log2 ≤ a.log2 + b.log2 + 1 := by
  by_cases ha : a = 0
  · subst ha
    simp
  by_cases hb : b = 0
  · subst hb
    simp
  have h1 : a < 2 ^ (a.log2 + 1) := Nat.lt_log2_self
  have h2 : b < 2 ^ (b.log2 + 1) := Nat.lt_log2_self
  have h3 : a * b < 2 ^ (a.log2 + 1 + (b.log2 + 1)) := by
    rw [Nat.pow_add]
    exact Nat.mul_lt_mul'' h1 h2
  have h4 := (Nat.log2_lt (Nat.mul_ne_zero ha hb)).mpr h3
  omega
theorem small_mul {i j : Int} (h1 : small i) (h2 : small j) : CMulW i j := by
  unfold small at h1 h2
  unfold CMulW
  omega
theorem small_log {i j : Int} (h1 : small i) (h2 : small j) : (i * j).natAbs.log2 < 9000 := by
  unfold small at h1 h2
  rw [Int.natAbs_mul]
  have := @log2_mul i.natAbs j.natAbs
  omega
def spOver (C CI : Addr) : Sp := fun vs H Q E => ∃ (a dx : Addr) (n m : Int) (d : D) (v : V), vs = [.ref a, v] ∧ H a = some (.ins C dx (rf n m)) ∧ At C H d v ∧
  (badO d = true → ∀ (H' : Hp) (e : Addr), Same H H' → H' e = some (.xd [("value", v)]) → E (.ref CI) (some e) H') ∧
  (badO d = false → ∀ i j, prt d = some (i, j) → m * i ≠ 0 ∧ small n ∧ small m ∧ small i ∧ small j ∧ New C H (n * j) (m * i) Q)
theorem nf_int : PySem.W.notFirst K C (.type "int") = true := by
  have e : PySem.W.subIn K (.type "int") (.ref C) = some false := by with_unfolding_all rfl
  unfold PySem.W.notFirst
  rw [e]
  simp
theorem zero_eq {H : Hp} {d : D} {v : V} {Q : VK} (a : At C H d v) (hn : isNum d = true) (k : ∀ H1, Same H H1 → Q (.bl (isZero d)) H1) : rEq v (.int 0) H Q ∨ rOwn K C (spEqR C) E0 v (.int 0) H Q := by
  cases d with
  | int i =>
    obtain rfl : v = .int i := a
    refine .inl ⟨rfl, ?_⟩
    rw [dec_int]
    exact k H (Same.refl H)
  | rat i j =>
    obtain ⟨p, dx, rfl, hp⟩ := a
    exact .inr ⟨p, dx, _, .type "int", rfl, hp, .base (.int 0), nf_int, p, dx, i, j, .int 0, .int 0, rfl, hp, rfl, fun H' s => k H' s⟩
  | _ => cases hn
end
end Fu

namespace Fu
open PySem L2
open PyProof.Rows hiding St
open L2H (RoomH roomH_of)
section
variable {P : Program} {w : World} {K : PySem.W.Frag} {mg : Str → Option Value} {base : Heap} {C : Addr}
/-! ### repr -/
theorem int_len {i : Int} (h : i.natAbs.log2 < 1920) : (Str.ofString (toString i)).length ≤ 1921 := by
  rw [PySem.ofString_length]
  exact int_text_length_le (k := 1920) (by decide) h
theorem scRepr : FnScope ["self"] ["self"] (defScope sRepr) := ⟨rfl, rfl, rfl, by decide +kernel, rfl, by decide +kernel, by decide +kernel⟩
theorem ok_repr {f : Addr} {fd : FuncData} (F : Fun K "__repr__" "Ratio.__repr__" sRepr f fd) (gs : mg "str" = none) (R : RatC K C) : FnA P w K mg base 1 f fd ["self"] (spRepr C) := by
  refine Fun.okA F scRepr (fun vs H Q E h => ?_) (fun cdv A outer s H vs Q E hr h => ?_)
  · obtain ⟨a, dx, n, m, rfl, _⟩ := h
    rfl
  · obtain ⟨a, dx, n, m, rfl, ha, hn, hm, k⟩ := h
    refine ⟨_, pss_cons (ps_if (pt_cmpR op_eq (pe_fld (pv 0) rfl) pe_int (nomark _)) (pss_one (ps_ret (pe_callTy call_str_int (by rfl) gs (by decide +kernel) (pa_cons (pe_fld (pv 0) rfl) pa_nil)))) pss_nil)
      (pss_one (ps_ret (pe_joined (.cons (pe_fmt (pe_fld (pv 0) rfl)) (.cons pe_str (.cons (pe_fmt (pe_fld (pv 0) rfl)) .nil)))))), ?_⟩
    refine ⟨_, rfl, a, C, dx, _, _, rfl, ha, R.ci.cl, R.nB, rf_bot _ _, rfl, _, rfl, ?_⟩
    by_cases e : m = 1
    · subst e
      refine if_true_of (by simp) ⟨_, rfl, a, C, dx, _, _, rfl, ha, R.ci.cl, R.nT, rf_top _ _, _, rfl, by omega, ?_⟩
      unfold rTxt at k
      rw [if_pos rfl] at k
      exact k
    · refine if_false_of (by simpa using e) ⟨_, rfl, a, C, dx, _, _, rfl, ha, R.ci.cl, R.nT, rf_top _ _, .inr ⟨_, rfl, by omega, ?_⟩⟩
      have l1 := int_len (i := n) (by omega)
      have l2 := int_len (i := m) (by omega)
      have lS : (Str.ofString "/").length = 1 := by decide +kernel
      refine ⟨_, rfl, by rw [Str.empty_append, sizeLine_eq]; omega, _, rfl, by rw [Str.empty_append, Str.length_append, lS, sizeLine_eq]; omega, ?_⟩
      refine ⟨_, rfl, a, C, dx, _, _, rfl, ha, R.ci.cl, R.nB, rf_bot _ _, .inr ⟨_, rfl, by omega, _, rfl, by rw [Str.empty_append, Str.length_append, Str.length_append, lS, sizeLine_eq]; omega, ?_⟩⟩
      unfold rTxt at k
      rw [if_neg e] at k
      rw [Str.empty_append]
      exact k
end
end Fu

/-! Ratio: lowest terms, and its arithmetic. -/
namespace Fu
open PySem L2
open PyProof.Rows hiding St
open L2H (RoomH roomH_of)
/-! ### lowest terms -/
def Red (n m : Int) : Prop := 0 < m ∧ Int.gcd n m = 1
theorem dv_natAbs (n m : Int) : (dv n m).natAbs = Int.gcd n m := by
  unfold dv
  split <;> simp
theorem dv_dvd_l (n m : Int) : dv n m ∣ n := by
  rw [← Int.natAbs_dvd, dv_natAbs]
  exact Int.gcd_dvd_left ..
theorem dv_dvd_r (n m : Int) : dv n m ∣ m := by
  rw [← Int.natAbs_dvd, dv_natAbs]
  exact Int.gcd_dvd_right ..
theorem fdiv_of {a b : Int} (h : b ≠ 0) : (b * a).fdiv b = a := by
  rw [Int.mul_comm]
  exact Int.mul_fdiv_cancel a h
theorem red_ex {n m : Int} (h : m ≠ 0) : ∃ a b, n = dv n m * a ∧ m = dv n m * b ∧ rN n m = a ∧ rD n m = b ∧ Red a b := by
  have hd := dv_ne (n := n) h
  obtain ⟨a, ha⟩ := dv_dvd_l n m
  obtain ⟨b, hb⟩ := dv_dvd_r n m
  refine ⟨a, b, ha, hb, ?_, ?_, ?_, ?_⟩
  · show n.fdiv (dv n m) = a
    have := fdiv_of (a := a) hd
    rw [← ha] at this
    exact this
  · show m.fdiv (dv n m) = b
    have := fdiv_of (a := b) hd
    rw [← hb] at this
    exact this
  · have hg : (0 : Int) ≤ (Int.gcd n m : Int) := Int.natCast_nonneg _
    have hb0 : b ≠ 0 := fun z => by rw [z, Int.mul_zero] at hb; exact h hb
    by_cases hm : m < 0
    · have e : dv n m = -(Int.gcd n m : Int) := if_pos hm
      rcases Int.lt_trichotomy b 0 with q | q | q
      · have : 0 ≤ dv n m * b := Int.mul_nonneg_of_nonpos_of_nonpos (by rw [e]; omega) (by omega)
        omega
      · exact absurd q hb0
      · exact q
    · have e : dv n m = (Int.gcd n m : Int) := if_neg hm
      rcases Int.lt_trichotomy b 0 with q | q | q
      · have : dv n m * b ≤ 0 := Int.mul_nonpos_of_nonneg_of_nonpos (by rw [e]; exact hg) (by omega)
        omega
      · exact absurd q hb0
      · exact q
  · have e1 : Int.gcd n m = (dv n m).natAbs * Int.gcd a b := by
      have e2 : Int.gcd n m = Int.gcd (dv n m * a) (dv n m * b) := by rw [← ha, ← hb]
      rw [e2, Int.gcd_mul_left]
    rw [dv_natAbs] at e1
    have hp : 0 < Int.gcd n m := by
      rw [← dv_natAbs]
      omega
    have e3 : Int.gcd n m * 1 = Int.gcd n m * Int.gcd a b := by rw [Nat.mul_one]; exact e1
    exact (Nat.eq_of_mul_eq_mul_left hp e3).symm
theorem red_rn {n m : Int} (h : m ≠ 0) : Red (rN n m) (rD n m) := by
  obtain ⟨a, b, _, _, e1, e2, r⟩ := red_ex (n := n) h
  rw [e1, e2]
  exact r
theorem cross_rn {n m : Int} (h : m ≠ 0) : rN n m * m = n * rD n m := by
  obtain ⟨a, b, h1, h2, e1, e2, r⟩ := red_ex (n := n) h
  rw [e1, e2]
  generalize dv n m = d at h1 h2
  rw [h1, h2]
  rw [Int.mul_comm d a, Int.mul_assoc]
theorem abs_rn {n m : Int} (h : m ≠ 0) : (rN n m).natAbs ≤ n.natAbs ∧ (rD n m).natAbs ≤ m.natAbs := by
  have hd := dv_ne (n := n) h
  obtain ⟨a, b, h1, h2, e1, e2, r⟩ := red_ex (n := n) h
  rw [e1, e2]
  generalize dv n m = d at h1 h2 hd
  have hp : 1 ≤ d.natAbs := by omega
  rw [h1, h2, Int.natAbs_mul, Int.natAbs_mul]
  exact ⟨Nat.le_mul_of_pos_left _ hp, Nat.le_mul_of_pos_left _ hp⟩
theorem dvd_cop {a b d : Int} (h : Int.gcd a b = 1) (q : b ∣ a * d) : b ∣ d := by
  have q' : b.natAbs ∣ a.natAbs * d.natAbs := by
    rw [← Int.natAbs_mul]
    exact Int.natAbs_dvd_natAbs.mpr q
  have c : Nat.Coprime b.natAbs a.natAbs := by
    rw [Nat.coprime_comm]
    exact h
  exact Int.natAbs_dvd_natAbs.mp (c.dvd_of_dvd_mul_left q')
/-- lowest terms are one -/
theorem red_one {a b c d : Int} (h : Red a b) (h' : Red c d) (e : a * d = c * b) : a = c ∧ b = d := by
  have d1 : b ∣ d := by
    have q : b ∣ a * d := ⟨c, by rw [e, Int.mul_comm]⟩
    exact dvd_cop h.2 q
  have d2 : d ∣ b := by
    have q : d ∣ c * b := ⟨a, by rw [← e, Int.mul_comm]⟩
    exact dvd_cop h'.2 q
  have hb := h.1
  have hd := h'.1
  have e2 : b = d := Int.le_antisymm (Int.le_of_dvd hd d1) (Int.le_of_dvd hb d2)
  refine ⟨?_, e2⟩
  rw [e2] at e
  exact Int.eq_of_mul_eq_mul_right (by omega) e
theorem red_self {n m : Int} (h : Red n m) : rN n m = n ∧ rD n m = m := by
  have hm : m ≠ 0 := by have := h.1; omega
  exact red_one (red_rn hm) h (cross_rn hm)
theorem red_neg {n m : Int} (h : Red n m) : Red (-n) m := ⟨h.1, by rw [Int.neg_gcd]; exact h.2⟩
theorem red_abs {n m : Int} (h : Red n m) : Red (if n < 0 then -n else n) m := by
  split
  · exact red_neg h
  · exact h
theorem red_int (n : Int) : Red n 1 := ⟨by decide, by simp⟩
section
variable {P : Program} {w : World} {K : PySem.W.Frag} {mg : Str → Option Value} {base : Heap} {C : Addr}
/-- a new Ratio that is A / B -/
def NewR (C : Addr) (H : Hp) (A B : Int) (Q : VK) : Prop := ∀ (p dx : Addr) (H' : Hp) (n m : Int), Same H H' → H p = none → H' p = some (.ins C dx (rf n m)) → Red n m → n * B = A * m → n.natAbs ≤ A.natAbs → m.natAbs ≤ B.natAbs → Q (.ref p) H'
theorem NewR.new {H : Hp} {A B : Int} {Q : VK} (hB : B ≠ 0) (k : NewR C H A B Q) : New C H A B Q := fun p dx H' s np hp => k p dx H' _ _ s np hp (red_rn hB) (cross_rn hB) (abs_rn hB).1 (abs_rn hB).2
/-- the methods with another number -/
def spAr (C : Addr) (F : Int → Int → Int → Int → Int) : Sp := fun vs H Q _ => ∃ (a dx : Addr) (n m : Int) (d : D) (v : V) (i j : Int), vs = [.ref a, v] ∧ H a = some (.ins C dx (rf n m)) ∧ At C H d v ∧ prt d = some (i, j) ∧ Red n m ∧ 0 < j ∧
  small n ∧ small m ∧ small i ∧ small j ∧ NewR C H (F n m i j) (m * j) Q
def spCm (C : Addr) (R : Int → Int → Bool) : Sp := fun vs H Q _ => ∃ (a dx : Addr) (n m : Int) (d : D) (v : V) (i j : Int), vs = [.ref a, v] ∧ H a = some (.ins C dx (rf n m)) ∧ At C H d v ∧ prt d = some (i, j) ∧
  small n ∧ small m ∧ small i ∧ small j ∧ ∀ H', Same H H' → Q (.bl (R (n * j) (i * m))) H'
/-- a new Ratio with these parts -/
def NewE (C : Addr) (H : Hp) (n m : Int) (Q : VK) : Prop := ∀ (p dx : Addr) (H' : Hp), Same H H' → H p = none → H' p = some (.ins C dx (rf n m)) → Q (.ref p) H'
def spUn (C : Addr) (F : Int → Int) : Sp := fun vs H Q _ => ∃ (a dx : Addr) (n m : Int), vs = [.ref a] ∧ H a = some (.ins C dx (rf n m)) ∧ Red n m ∧ small m ∧ NewE C H (F n) m Q
theorem isNum_of {d : D} {i j : Int} (h : prt d = some (i, j)) : isNum d = true := by
  unfold isNum
  rw [h]
  rfl
theorem small9 {m : Int} (h : small m) : m.natAbs.log2 < 9000 := by
  unfold small at h
  omega
theorem mul_ne {a b : Int} (h : 0 < a) (h' : 0 < b) : a * b ≠ 0 := by
  have := Int.mul_pos h h'
  omega
theorem sc_add : FnScope ["self", "other", "top", "bottom"] ["self", "other"] (defScope sRatio_add) := ⟨rfl, rfl, rfl, by decide +kernel, rfl, by decide +kernel, by decide +kernel⟩
def F_add (n m i j : Int) : Int := n * j + i * m
theorem ok_add {f f1 f2 f3 CI : Addr} {fd fd1 fd2 fd3 : FuncData} {ds : List Value} (F : Fun K "__add__" "Ratio.__add__" sRatio_add f fd) (R : RatC K C) (R2 : RatK K mg C) (G1 : Def P w K mg base CX0 2 "is_number" ["value"] (spIsNum C) f1 fd1)
    (G2 : Def P w K mg base CX0 1 "parts_of" ["number"] (spParts C) f2 fd2) (M : RatM P w K mg base C CI f3 fd3 ds) : FnOk P w K mg base CX0 5 f fd ["self", "other"] (spAr C F_add) := by
  refine F.ok sc_add (fun vs H Q E h => ?_) (fun cdv A outer s H vs Q E hr h => ?_)
  · obtain ⟨a, dx, n, m, d, v, i, j, rfl, _⟩ := h
    rfl
  · obtain ⟨a, dx, n, m, d, v, i, j, rfl, ha, at1, hp, rd, j0, sn, sm, si, sj, k⟩ := h
    refine ⟨_, pss_cons (ps_if (pt_not (pt_val (pe_def G1 (hr.mono (by decide)) (pa_cons (pv 1) pa_nil)))) pss_never pss_nil)
      (pss_cons (ps_asg (pe_def G2 (hr.mono (by decide)) (pa_cons (pv 1) pa_nil)) (pg_tup rfl (pgs_cons (pg_name (i := 2) sc_add.nd rfl (.inl rfl)) (pgs_cons (pg_name (i := 3) sc_add.nd rfl (.inl rfl)) pgs_nil))))
      (pss_one (ps_ret (pe_make M.m M.ok hr rfl R2.g M.b2 .nil passL (pa_cons (pe_op op_add (pe_op op_mulW (pe_fld (pv 0) rfl) (pv 3)) (pe_op op_mulW (pv 2) (pe_fld (pv 0) rfl))) (pa_cons (pe_op op_mulW (pe_fld (pv 0) rfl) (pv 3)) pa_nil)))))), ?_⟩
    refine ⟨_, rfl, d, v, rfl, at1, _, rfl, ?_⟩
    rw [isNum_of hp]
    refine iteF ⟨_, rfl, d, v, i, j, rfl, at1, hp, fun q nq => ?_⟩
    have ha2 := Same.new (o := .tup [.int i, .int j]) nq _ _ ha
    refine ⟨q, _, rfl, SqT.of upd_same, rfl, _, _, rfl, _, _, rfl, rfl, ?_⟩
    refine ⟨_, rfl, a, C, dx, _, _, rfl, ha2, R.ci.cl, R.nT, rf_top _ _, _, rfl, _, _, rfl, rfl, small_mul sn sj, _, rfl, _, rfl, a, C, dx, _, _, rfl, ha2, R.ci.cl, R.nB, rf_bot _ _, _, _, rfl, rfl, small_mul si sm, _, _, rfl, rfl, _, rfl, a, C, dx, _, _, rfl, ha2, R.ci.cl, R.nB, rf_bot _ _, _, rfl, _, _, rfl, rfl, small_mul sm sj, fun x dx' nx nd ne => ?_⟩
    have s2 := Same.new (o := .tup [.int i, .int j]) nq
    have hmj := mul_ne rd.1 j0
    have k' := k.new hmj
    exact init_int nx nd ne hmj (small_log sm sj) fun p dx2 H' s3 np hp => k' p dx2 H' (s2.trans s3) (s2.free np) hp
theorem sc_sub : FnScope ["self", "other", "top", "bottom"] ["self", "other"] (defScope sRatio_sub) := ⟨rfl, rfl, rfl, by decide +kernel, rfl, by decide +kernel, by decide +kernel⟩
def F_sub (n m i j : Int) : Int := n * j - i * m
theorem ok_sub {f f1 f2 f3 CI : Addr} {fd fd1 fd2 fd3 : FuncData} {ds : List Value} (F : Fun K "__sub__" "Ratio.__sub__" sRatio_sub f fd) (R : RatC K C) (R2 : RatK K mg C) (G1 : Def P w K mg base CX0 2 "is_number" ["value"] (spIsNum C) f1 fd1)
    (G2 : Def P w K mg base CX0 1 "parts_of" ["number"] (spParts C) f2 fd2) (M : RatM P w K mg base C CI f3 fd3 ds) : FnOk P w K mg base CX0 5 f fd ["self", "other"] (spAr C F_sub) := by
  refine F.ok sc_sub (fun vs H Q E h => ?_) (fun cdv A outer s H vs Q E hr h => ?_)
  · obtain ⟨a, dx, n, m, d, v, i, j, rfl, _⟩ := h
    rfl
  · obtain ⟨a, dx, n, m, d, v, i, j, rfl, ha, at1, hp, rd, j0, sn, sm, si, sj, k⟩ := h
    refine ⟨_, pss_cons (ps_if (pt_not (pt_val (pe_def G1 (hr.mono (by decide)) (pa_cons (pv 1) pa_nil)))) pss_never pss_nil)
      (pss_cons (ps_asg (pe_def G2 (hr.mono (by decide)) (pa_cons (pv 1) pa_nil)) (pg_tup rfl (pgs_cons (pg_name (i := 2) sc_sub.nd rfl (.inl rfl)) (pgs_cons (pg_name (i := 3) sc_sub.nd rfl (.inl rfl)) pgs_nil))))
      (pss_one (ps_ret (pe_make M.m M.ok hr rfl R2.g M.b2 .nil passL (pa_cons (pe_op op_sub (pe_op op_mulW (pe_fld (pv 0) rfl) (pv 3)) (pe_op op_mulW (pv 2) (pe_fld (pv 0) rfl))) (pa_cons (pe_op op_mulW (pe_fld (pv 0) rfl) (pv 3)) pa_nil)))))), ?_⟩
    refine ⟨_, rfl, d, v, rfl, at1, _, rfl, ?_⟩
    rw [isNum_of hp]
    refine iteF ⟨_, rfl, d, v, i, j, rfl, at1, hp, fun q nq => ?_⟩
    have ha2 := Same.new (o := .tup [.int i, .int j]) nq _ _ ha
    refine ⟨q, _, rfl, SqT.of upd_same, rfl, _, _, rfl, _, _, rfl, rfl, ?_⟩
    refine ⟨_, rfl, a, C, dx, _, _, rfl, ha2, R.ci.cl, R.nT, rf_top _ _, _, rfl, _, _, rfl, rfl, small_mul sn sj, _, rfl, _, rfl, a, C, dx, _, _, rfl, ha2, R.ci.cl, R.nB, rf_bot _ _, _, _, rfl, rfl, small_mul si sm, _, _, rfl, rfl, _, rfl, a, C, dx, _, _, rfl, ha2, R.ci.cl, R.nB, rf_bot _ _, _, rfl, _, _, rfl, rfl, small_mul sm sj, fun x dx' nx nd ne => ?_⟩
    have s2 := Same.new (o := .tup [.int i, .int j]) nq
    have hmj := mul_ne rd.1 j0
    have k' := k.new hmj
    exact init_int nx nd ne hmj (small_log sm sj) fun p dx2 H' s3 np hp => k' p dx2 H' (s2.trans s3) (s2.free np) hp
theorem sc_mul : FnScope ["self", "other", "top", "bottom"] ["self", "other"] (defScope sRatio_mul) := ⟨rfl, rfl, rfl, by decide +kernel, rfl, by decide +kernel, by decide +kernel⟩
def F_mul (n m i j : Int) : Int := n * i
theorem ok_mul {f f1 f2 f3 CI : Addr} {fd fd1 fd2 fd3 : FuncData} {ds : List Value} (F : Fun K "__mul__" "Ratio.__mul__" sRatio_mul f fd) (R : RatC K C) (R2 : RatK K mg C) (G1 : Def P w K mg base CX0 2 "is_number" ["value"] (spIsNum C) f1 fd1)
    (G2 : Def P w K mg base CX0 1 "parts_of" ["number"] (spParts C) f2 fd2) (M : RatM P w K mg base C CI f3 fd3 ds) : FnOk P w K mg base CX0 5 f fd ["self", "other"] (spAr C F_mul) := by
  refine F.ok sc_mul (fun vs H Q E h => ?_) (fun cdv A outer s H vs Q E hr h => ?_)
  · obtain ⟨a, dx, n, m, d, v, i, j, rfl, _⟩ := h
    rfl
  · obtain ⟨a, dx, n, m, d, v, i, j, rfl, ha, at1, hp, rd, j0, sn, sm, si, sj, k⟩ := h
    refine ⟨_, pss_cons (ps_if (pt_not (pt_val (pe_def G1 (hr.mono (by decide)) (pa_cons (pv 1) pa_nil)))) pss_never pss_nil)
      (pss_cons (ps_asg (pe_def G2 (hr.mono (by decide)) (pa_cons (pv 1) pa_nil)) (pg_tup rfl (pgs_cons (pg_name (i := 2) sc_mul.nd rfl (.inl rfl)) (pgs_cons (pg_name (i := 3) sc_mul.nd rfl (.inl rfl)) pgs_nil))))
      (pss_one (ps_ret (pe_make M.m M.ok hr rfl R2.g M.b2 .nil passL (pa_cons (pe_op op_mulW (pe_fld (pv 0) rfl) (pv 2)) (pa_cons (pe_op op_mulW (pe_fld (pv 0) rfl) (pv 3)) pa_nil)))))), ?_⟩
    refine ⟨_, rfl, d, v, rfl, at1, _, rfl, ?_⟩
    rw [isNum_of hp]
    refine iteF ⟨_, rfl, d, v, i, j, rfl, at1, hp, fun q nq => ?_⟩
    have ha2 := Same.new (o := .tup [.int i, .int j]) nq _ _ ha
    refine ⟨q, _, rfl, SqT.of upd_same, rfl, _, _, rfl, _, _, rfl, rfl, ?_⟩
    refine ⟨_, rfl, a, C, dx, _, _, rfl, ha2, R.ci.cl, R.nT, rf_top _ _, _, rfl, _, _, rfl, rfl, small_mul sn si, _, rfl, a, C, dx, _, _, rfl, ha2, R.ci.cl, R.nB, rf_bot _ _, _, rfl, _, _, rfl, rfl, small_mul sm sj, fun x dx' nx nd ne => ?_⟩
    have s2 := Same.new (o := .tup [.int i, .int j]) nq
    have hmj := mul_ne rd.1 j0
    have k' := k.new hmj
    exact init_int nx nd ne hmj (small_log sm sj) fun p dx2 H' s3 np hp => k' p dx2 H' (s2.trans s3) (s2.free np) hp
end
end Fu

/-! Ratio: orders, reflected methods, -, abs, bool, floor, str. -/
namespace Fu
open PySem L2
open PyProof.Rows hiding St
open L2H (RoomH roomH_of)
section
variable {P : Program} {w : World} {K : PySem.W.Frag} {mg : Str → Option Value} {base : Heap} {C : Addr}
theorem NewR.at {H H1 : Hp} {A B : Int} {Q : VK} (s : Same H H1) (k : NewR C H A B Q) : NewR C H1 A B Q := fun p dx H' n m s' np hp r e a b => k p dx H' n m (s.trans s') (s.free np) hp r e a b
/-- with an int on the left -/
def spRr (C : Addr) (F : Int → Int → Int → Int → Int) : Sp := fun vs H Q _ => ∃ (a dx : Addr) (n m i : Int), vs = [.ref a, .int i] ∧ H a = some (.ins C dx (rf n m)) ∧ Red n m ∧ small n ∧ small m ∧ small i ∧ NewR C H (F n m i 1) (m * 1) Q
theorem small_one : small 1 := by
  unfold small
  decide
theorem small_neg {n : Int} (h : small n) : small (-n) := by
  unfold small at *
  rw [Int.natAbs_neg]
  exact h
theorem sc_lt : FnScope ["self", "other", "top", "bottom"] ["self", "other"] (defScope sRatio_lt) := ⟨rfl, rfl, rfl, by decide +kernel, rfl, by decide +kernel, by decide +kernel⟩
def R_lt (a b : Int) : Bool := decide (a < b)
theorem ok_lt {f f1 f2 : Addr} {fd fd1 fd2 : FuncData} (F : Fun K "__lt__" "Ratio.__lt__" sRatio_lt f fd) (R : RatC K C) (G1 : Def P w K mg base CX0 2 "is_number" ["value"] (spIsNum C) f1 fd1)
    (G2 : Def P w K mg base CX0 1 "parts_of" ["number"] (spParts C) f2 fd2) : FnOk P w K mg base CX0 3 f fd ["self", "other"] (spCm C R_lt) := by
  refine F.ok sc_lt (fun vs H Q E h => ?_) (fun cdv A outer s H vs Q E hr h => ?_)
  · obtain ⟨a, dx, n, m, d, v, i, j, rfl, _⟩ := h
    rfl
  · obtain ⟨a, dx, n, m, d, v, i, j, rfl, ha, at1, hp, sn, sm, si, sj, k⟩ := h
    refine ⟨_, pss_cons (ps_if (pt_not (pt_val (pe_def G1 hr (pa_cons (pv 1) pa_nil)))) pss_never pss_nil)
      (pss_cons (ps_asg (pe_def G2 (hr.mono (by decide)) (pa_cons (pv 1) pa_nil)) (pg_tup rfl (pgs_cons (pg_name (i := 2) sc_lt.nd rfl (.inl rfl)) (pgs_cons (pg_name (i := 3) sc_lt.nd rfl (.inl rfl)) pgs_nil))))
      (pss_one (ps_ret (pe_cmpR op_lt (pe_op op_mulW (pe_fld (pv 0) rfl) (pv 3)) (pe_op op_mulW (pv 2) (pe_fld (pv 0) rfl)) (nomark _))))), ?_⟩
    refine ⟨_, rfl, d, v, rfl, at1, _, rfl, ?_⟩
    rw [isNum_of hp]
    refine iteF ⟨_, rfl, d, v, i, j, rfl, at1, hp, fun q nq => ?_⟩
    have ha2 := Same.new (o := .tup [.int i, .int j]) nq _ _ ha
    refine ⟨q, _, rfl, SqT.of upd_same, rfl, _, _, rfl, _, _, rfl, rfl, ?_⟩
    exact ⟨_, rfl, a, C, dx, _, _, rfl, ha2, R.ci.cl, R.nT, rf_top _ _, _, rfl, _, _, rfl, rfl, small_mul sn sj, _, rfl, _, rfl, a, C, dx, _, _, rfl, ha2, R.ci.cl, R.nB, rf_bot _ _, _, _, rfl, rfl, small_mul si sm, _, _, rfl, rfl, k _ (Same.new nq)⟩
theorem sc_le : FnScope ["self", "other", "top", "bottom"] ["self", "other"] (defScope sRatio_le) := ⟨rfl, rfl, rfl, by decide +kernel, rfl, by decide +kernel, by decide +kernel⟩
def R_le (a b : Int) : Bool := decide (a ≤ b)
theorem ok_le {f f1 f2 : Addr} {fd fd1 fd2 : FuncData} (F : Fun K "__le__" "Ratio.__le__" sRatio_le f fd) (R : RatC K C) (G1 : Def P w K mg base CX0 2 "is_number" ["value"] (spIsNum C) f1 fd1)
    (G2 : Def P w K mg base CX0 1 "parts_of" ["number"] (spParts C) f2 fd2) : FnOk P w K mg base CX0 3 f fd ["self", "other"] (spCm C R_le) := by
  refine F.ok sc_le (fun vs H Q E h => ?_) (fun cdv A outer s H vs Q E hr h => ?_)
  · obtain ⟨a, dx, n, m, d, v, i, j, rfl, _⟩ := h
    rfl
  · obtain ⟨a, dx, n, m, d, v, i, j, rfl, ha, at1, hp, sn, sm, si, sj, k⟩ := h
    refine ⟨_, pss_cons (ps_if (pt_not (pt_val (pe_def G1 hr (pa_cons (pv 1) pa_nil)))) pss_never pss_nil)
      (pss_cons (ps_asg (pe_def G2 (hr.mono (by decide)) (pa_cons (pv 1) pa_nil)) (pg_tup rfl (pgs_cons (pg_name (i := 2) sc_le.nd rfl (.inl rfl)) (pgs_cons (pg_name (i := 3) sc_le.nd rfl (.inl rfl)) pgs_nil))))
      (pss_one (ps_ret (pe_cmpR op_le (pe_op op_mulW (pe_fld (pv 0) rfl) (pv 3)) (pe_op op_mulW (pv 2) (pe_fld (pv 0) rfl)) (nomark _))))), ?_⟩
    refine ⟨_, rfl, d, v, rfl, at1, _, rfl, ?_⟩
    rw [isNum_of hp]
    refine iteF ⟨_, rfl, d, v, i, j, rfl, at1, hp, fun q nq => ?_⟩
    have ha2 := Same.new (o := .tup [.int i, .int j]) nq _ _ ha
    refine ⟨q, _, rfl, SqT.of upd_same, rfl, _, _, rfl, _, _, rfl, rfl, ?_⟩
    exact ⟨_, rfl, a, C, dx, _, _, rfl, ha2, R.ci.cl, R.nT, rf_top _ _, _, rfl, _, _, rfl, rfl, small_mul sn sj, _, rfl, _, rfl, a, C, dx, _, _, rfl, ha2, R.ci.cl, R.nB, rf_bot _ _, _, _, rfl, rfl, small_mul si sm, _, _, rfl, rfl, k _ (Same.new nq)⟩
theorem sc_gt : FnScope ["self", "other", "top", "bottom"] ["self", "other"] (defScope sRatio_gt) := ⟨rfl, rfl, rfl, by decide +kernel, rfl, by decide +kernel, by decide +kernel⟩
def R_gt (a b : Int) : Bool := decide (b < a)
theorem ok_gt {f f1 f2 : Addr} {fd fd1 fd2 : FuncData} (F : Fun K "__gt__" "Ratio.__gt__" sRatio_gt f fd) (R : RatC K C) (G1 : Def P w K mg base CX0 2 "is_number" ["value"] (spIsNum C) f1 fd1)
    (G2 : Def P w K mg base CX0 1 "parts_of" ["number"] (spParts C) f2 fd2) : FnOk P w K mg base CX0 3 f fd ["self", "other"] (spCm C R_gt) := by
  refine F.ok sc_gt (fun vs H Q E h => ?_) (fun cdv A outer s H vs Q E hr h => ?_)
  · obtain ⟨a, dx, n, m, d, v, i, j, rfl, _⟩ := h
    rfl
  · obtain ⟨a, dx, n, m, d, v, i, j, rfl, ha, at1, hp, sn, sm, si, sj, k⟩ := h
    refine ⟨_, pss_cons (ps_if (pt_not (pt_val (pe_def G1 hr (pa_cons (pv 1) pa_nil)))) pss_never pss_nil)
      (pss_cons (ps_asg (pe_def G2 (hr.mono (by decide)) (pa_cons (pv 1) pa_nil)) (pg_tup rfl (pgs_cons (pg_name (i := 2) sc_gt.nd rfl (.inl rfl)) (pgs_cons (pg_name (i := 3) sc_gt.nd rfl (.inl rfl)) pgs_nil))))
      (pss_one (ps_ret (pe_cmpR op_gt (pe_op op_mulW (pe_fld (pv 0) rfl) (pv 3)) (pe_op op_mulW (pv 2) (pe_fld (pv 0) rfl)) (nomark _))))), ?_⟩
    refine ⟨_, rfl, d, v, rfl, at1, _, rfl, ?_⟩
    rw [isNum_of hp]
    refine iteF ⟨_, rfl, d, v, i, j, rfl, at1, hp, fun q nq => ?_⟩
    have ha2 := Same.new (o := .tup [.int i, .int j]) nq _ _ ha
    refine ⟨q, _, rfl, SqT.of upd_same, rfl, _, _, rfl, _, _, rfl, rfl, ?_⟩
    exact ⟨_, rfl, a, C, dx, _, _, rfl, ha2, R.ci.cl, R.nT, rf_top _ _, _, rfl, _, _, rfl, rfl, small_mul sn sj, _, rfl, _, rfl, a, C, dx, _, _, rfl, ha2, R.ci.cl, R.nB, rf_bot _ _, _, _, rfl, rfl, small_mul si sm, _, _, rfl, rfl, k _ (Same.new nq)⟩
theorem sc_ge : FnScope ["self", "other", "top", "bottom"] ["self", "other"] (defScope sRatio_ge) := ⟨rfl, rfl, rfl, by decide +kernel, rfl, by decide +kernel, by decide +kernel⟩
def R_ge (a b : Int) : Bool := decide (b ≤ a)
theorem ok_ge {f f1 f2 : Addr} {fd fd1 fd2 : FuncData} (F : Fun K "__ge__" "Ratio.__ge__" sRatio_ge f fd) (R : RatC K C) (G1 : Def P w K mg base CX0 2 "is_number" ["value"] (spIsNum C) f1 fd1)
    (G2 : Def P w K mg base CX0 1 "parts_of" ["number"] (spParts C) f2 fd2) : FnOk P w K mg base CX0 3 f fd ["self", "other"] (spCm C R_ge) := by
  refine F.ok sc_ge (fun vs H Q E h => ?_) (fun cdv A outer s H vs Q E hr h => ?_)
  · obtain ⟨a, dx, n, m, d, v, i, j, rfl, _⟩ := h
    rfl
  · obtain ⟨a, dx, n, m, d, v, i, j, rfl, ha, at1, hp, sn, sm, si, sj, k⟩ := h
    refine ⟨_, pss_cons (ps_if (pt_not (pt_val (pe_def G1 hr (pa_cons (pv 1) pa_nil)))) pss_never pss_nil)
      (pss_cons (ps_asg (pe_def G2 (hr.mono (by decide)) (pa_cons (pv 1) pa_nil)) (pg_tup rfl (pgs_cons (pg_name (i := 2) sc_ge.nd rfl (.inl rfl)) (pgs_cons (pg_name (i := 3) sc_ge.nd rfl (.inl rfl)) pgs_nil))))
      (pss_one (ps_ret (pe_cmpR op_ge (pe_op op_mulW (pe_fld (pv 0) rfl) (pv 3)) (pe_op op_mulW (pv 2) (pe_fld (pv 0) rfl)) (nomark _))))), ?_⟩
    refine ⟨_, rfl, d, v, rfl, at1, _, rfl, ?_⟩
    rw [isNum_of hp]
    refine iteF ⟨_, rfl, d, v, i, j, rfl, at1, hp, fun q nq => ?_⟩
    have ha2 := Same.new (o := .tup [.int i, .int j]) nq _ _ ha
    refine ⟨q, _, rfl, SqT.of upd_same, rfl, _, _, rfl, _, _, rfl, rfl, ?_⟩
    exact ⟨_, rfl, a, C, dx, _, _, rfl, ha2, R.ci.cl, R.nT, rf_top _ _, _, rfl, _, _, rfl, rfl, small_mul sn sj, _, rfl, _, rfl, a, C, dx, _, _, rfl, ha2, R.ci.cl, R.nB, rf_bot _ _, _, _, rfl, rfl, small_mul si sm, _, _, rfl, rfl, k _ (Same.new nq)⟩
theorem sc_neg : FnScope ["self"] ["self"] (defScope sRatio_neg) := ⟨rfl, rfl, rfl, by decide +kernel, rfl, by decide +kernel, by decide +kernel⟩
def U_neg (n : Int) : Int := -n
theorem ok_neg {f f3 CI : Addr} {fd fd3 : FuncData} {ds : List Value} (F : Fun K "__neg__" "Ratio.__neg__" sRatio_neg f fd) (B : Bt mg) (R : RatC K C) (R2 : RatK K mg C) (M : RatM P w K mg base C CI f3 fd3 ds) : FnOk P w K mg base CX0 5 f fd ["self"] (spUn C U_neg) := by
  refine F.ok sc_neg (fun vs H Q E h => ?_) (fun cdv A outer s H vs Q E hr h => ?_)
  · obtain ⟨a, dx, n, m, rfl, _⟩ := h
    rfl
  · obtain ⟨a, dx, n, m, rfl, ha, rd, sm, k⟩ := h
    refine ⟨_, pss_one (ps_ret (pe_make M.m M.ok hr rfl R2.g M.b2 .nil passL (pa_cons (pe_un un_neg (pe_fld (pv 0) rfl)) (pa_cons (pe_fld (pv 0) rfl) pa_nil)))), ?_⟩
    refine ⟨_, rfl, a, C, dx, _, _, rfl, ha, R.ci.cl, R.nT, rf_top _ _, _, rfl, _, rfl, a, C, dx, _, _, rfl, ha, R.ci.cl, R.nB, rf_bot _ _, fun x dx' nx nd ne => ?_⟩
    have hm : m ≠ 0 := by have := rd.1; omega
    have e := red_self (red_neg rd)
    refine init_int nx nd ne hm (small9 sm) fun p dx2 H' s3 np hp => ?_
    rw [e.1, e.2] at hp
    exact k p dx2 H' s3 np hp
theorem sc_abs : FnScope ["self"] ["self"] (defScope sRatio_abs) := ⟨rfl, rfl, rfl, by decide +kernel, rfl, by decide +kernel, by decide +kernel⟩
def U_abs (n : Int) : Int := if n < 0 then -n else n
theorem ok_abs {f f3 CI : Addr} {fd fd3 : FuncData} {ds : List Value} (F : Fun K "__abs__" "Ratio.__abs__" sRatio_abs f fd) (B : Bt mg) (R : RatC K C) (R2 : RatK K mg C) (M : RatM P w K mg base C CI f3 fd3 ds) : FnOk P w K mg base CX0 5 f fd ["self"] (spUn C U_abs) := by
  refine F.ok sc_abs (fun vs H Q E h => ?_) (fun cdv A outer s H vs Q E hr h => ?_)
  · obtain ⟨a, dx, n, m, rfl, _⟩ := h
    rfl
  · obtain ⟨a, dx, n, m, rfl, ha, rd, sm, k⟩ := h
    refine ⟨_, pss_one (ps_ret (pe_make M.m M.ok hr rfl R2.g M.b2 .nil passL (pa_cons (pe_callB call_abs (by rfl) B.abs (by decide +kernel) (pa_cons (pe_fld (pv 0) rfl) pa_nil)) (pa_cons (pe_fld (pv 0) rfl) pa_nil)))), ?_⟩
    refine ⟨_, rfl, a, C, dx, _, _, rfl, ha, R.ci.cl, R.nT, rf_top _ _, _, rfl, _, rfl, a, C, dx, _, _, rfl, ha, R.ci.cl, R.nB, rf_bot _ _, fun x dx' nx nd ne => ?_⟩
    have hm : m ≠ 0 := by have := rd.1; omega
    have e := red_self (red_abs rd)
    refine init_int nx nd ne hm (small9 sm) fun p dx2 H' s3 np hp => ?_
    rw [e.1, e.2] at hp
    exact k p dx2 H' s3 np hp
theorem sc_bool : FnScope ["self"] ["self"] (defScope sRatio_bool) := ⟨rfl, rfl, rfl, by decide +kernel, rfl, by decide +kernel, by decide +kernel⟩
def spBool (C : Addr) : Sp := fun vs H Q _ => ∃ (a dx : Addr) (n m : Int), vs = [.ref a] ∧ H a = some (.ins C dx (rf n m)) ∧ Q (.bl (!decide (V.int n = V.int 0))) H
theorem ok_bool {f : Addr} {fd : FuncData} (F : Fun K "__bool__" "Ratio.__bool__" sRatio_bool f fd) (B : Bt mg) (R : RatC K C) : FnOk P w K mg base CX0 1 f fd ["self"] (spBool C) := by
  refine F.ok sc_bool (fun vs H Q E h => ?_) (fun cdv A outer s H vs Q E hr h => ?_)
  · obtain ⟨a, dx, n, m, rfl, _⟩ := h
    rfl
  · obtain ⟨a, dx, n, m, rfl, ha, k⟩ := h
    refine ⟨_, pss_one (ps_ret (pe_callTy call_bool1 (by rfl) B.bool (by decide +kernel) (pa_cons (pe_cmpR op_ne (pe_fld (pv 0) rfl) pe_int (nomark _)) pa_nil))), ?_⟩
    exact ⟨_, rfl, a, C, dx, _, _, rfl, ha, R.ci.cl, R.nT, rf_top _ _, rfl, .inr ⟨_, rfl, k⟩⟩
def spFloor (C : Addr) : Sp := fun vs H Q _ => ∃ (a dx : Addr) (n m : Int), vs = [.ref a] ∧ H a = some (.ins C dx (rf n m)) ∧ m ≠ 0 ∧ small m ∧ Q (.int (n.fdiv m)) H
theorem sc_radd : FnScope ["self", "other"] ["self", "other"] (defScope sRatio_radd) := ⟨rfl, rfl, rfl, by decide +kernel, rfl, by decide +kernel, by decide +kernel⟩
theorem ok_radd {f fA g : Addr} {fd fdA : FuncData} (F : Fun K "__radd__" "Ratio.__radd__" sRatio_radd f fd) (GA : FnOk P w K mg base CX0 5 fA fdA ["self", "other"] (spAr C F_add)) (O : OwnB K C .Add fA g) (bA : Binds K fdA ["self", "other"] []) :
    FnOk P w K mg base CX0 6 f fd ["self", "other"] (spRr C F_add) := by
  refine F.ok sc_radd (fun vs H Q E h => ?_) (fun cdv A outer s H vs Q E hr h => ?_)
  · obtain ⟨a, dx, n, m, i, rfl, _⟩ := h
    rfl
  · obtain ⟨a, dx, n, m, i, rfl, ha, rd, sn, sm, si, k⟩ := h
    refine ⟨_, pss_one (ps_ret (pe_op (op_bin GA hr O bA) (pv 0) (pv 1))), ?_⟩
    exact ⟨_, rfl, _, rfl, a, dx, _, rfl, ha, .inl ⟨i, rfl⟩, a, dx, n, m, .int i, .int i, i, 1, rfl, ha, rfl, rfl, rd, by decide, sn, sm, si, small_one, k⟩
theorem sc_rmul : FnScope ["self", "other"] ["self", "other"] (defScope sRatio_rmul) := ⟨rfl, rfl, rfl, by decide +kernel, rfl, by decide +kernel, by decide +kernel⟩
theorem ok_rmul {f fA g : Addr} {fd fdA : FuncData} (F : Fun K "__rmul__" "Ratio.__rmul__" sRatio_rmul f fd) (GA : FnOk P w K mg base CX0 5 fA fdA ["self", "other"] (spAr C F_mul)) (O : OwnB K C .Mult fA g) (bA : Binds K fdA ["self", "other"] []) :
    FnOk P w K mg base CX0 6 f fd ["self", "other"] (spRr C F_mul) := by
  refine F.ok sc_rmul (fun vs H Q E h => ?_) (fun cdv A outer s H vs Q E hr h => ?_)
  · obtain ⟨a, dx, n, m, i, rfl, _⟩ := h
    rfl
  · obtain ⟨a, dx, n, m, i, rfl, ha, rd, sn, sm, si, k⟩ := h
    refine ⟨_, pss_one (ps_ret (pe_op (op_bin GA hr O bA) (pv 0) (pv 1))), ?_⟩
    exact ⟨_, rfl, _, rfl, a, dx, _, rfl, ha, .inl ⟨i, rfl⟩, a, dx, n, m, .int i, .int i, i, 1, rfl, ha, rfl, rfl, rd, by decide, sn, sm, si, small_one, k⟩
theorem sc_rsub : FnScope ["self", "other"] ["self", "other"] (defScope sRatio_rsub) := ⟨rfl, rfl, rfl, by decide +kernel, rfl, by decide +kernel, by decide +kernel⟩
def F_rsub (n m i j : Int) : Int := F_add (-n) m i j
theorem ok_rsub {f fA g fN : Addr} {fd fdA fdN : FuncData} (F : Fun K "__rsub__" "Ratio.__rsub__" sRatio_rsub f fd) (GA : FnOk P w K mg base CX0 5 fA fdA ["self", "other"] (spAr C F_add)) (O : OwnB K C .Add fA g) (bA : Binds K fdA ["self", "other"] [])
    (GN : FnOk P w K mg base CX0 5 fN fdN ["self"] (spUn C U_neg)) (ON : Own K C "__neg__" fN) (bN : Binds K fdN ["self"] []) : FnOk P w K mg base CX0 6 f fd ["self", "other"] (spRr C F_rsub) := by
  refine F.ok sc_rsub (fun vs H Q E h => ?_) (fun cdv A outer s H vs Q E hr h => ?_)
  · obtain ⟨a, dx, n, m, i, rfl, _⟩ := h
    rfl
  · obtain ⟨a, dx, n, m, i, rfl, ha, rd, sn, sm, si, k⟩ := h
    refine ⟨_, pss_one (ps_ret (pe_op (op_bin GA hr O bA) (pe_un (un_negO GN hr ON bN) (pv 0)) (pv 1))), ?_⟩
    refine ⟨_, rfl, a, dx, _, rfl, ha, a, dx, n, m, rfl, ha, rd, sm, fun p dx2 H1 s1 np hp => ?_⟩
    exact ⟨_, rfl, p, dx2, _, rfl, hp, .inl ⟨i, rfl⟩, p, dx2, -n, m, .int i, .int i, i, 1, rfl, hp, rfl, rfl, red_neg rd, by decide, small_neg sn, sm, si, small_one, k.at s1⟩
theorem sc_str : FnScope ["self"] ["self"] (defScope sRatio_str) := ⟨rfl, rfl, rfl, by decide +kernel, rfl, by decide +kernel, by decide +kernel⟩
theorem ok_str {f : Addr} {fd : FuncData} (F : Fun K "__str__" "Ratio.__str__" sRatio_str f fd) (gs : mg "str" = none) (R : RatC K C) : FnA P w K mg base 1 f fd ["self"] (spRepr C) := by
  refine Fun.okA F sc_str (fun vs H Q E h => ?_) (fun cdv A outer s H vs Q E hr h => ?_)
  · obtain ⟨a, dx, n, m, rfl, _⟩ := h
    rfl
  · obtain ⟨a, dx, n, m, rfl, ha, hn, hm, k⟩ := h
    refine ⟨_, pss_cons (ps_if (pt_cmpR op_eq (pe_fld (pv 0) rfl) pe_int (nomark _)) (pss_one (ps_ret (pe_callTy call_str_int (by rfl) gs (by decide +kernel) (pa_cons (pe_fld (pv 0) rfl) pa_nil)))) pss_nil)
      (pss_one (ps_ret (pe_joined (.cons (pe_fmt (pe_fld (pv 0) rfl)) (.cons pe_str (.cons (pe_fmt (pe_fld (pv 0) rfl)) .nil)))))), ?_⟩
    refine ⟨_, rfl, a, C, dx, _, _, rfl, ha, R.ci.cl, R.nB, rf_bot _ _, rfl, _, rfl, ?_⟩
    by_cases e : m = 1
    · subst e
      refine if_true_of (by simp) ⟨_, rfl, a, C, dx, _, _, rfl, ha, R.ci.cl, R.nT, rf_top _ _, _, rfl, by omega, ?_⟩
      unfold rTxt at k
      rw [if_pos rfl] at k
      exact k
    · refine if_false_of (by simpa using e) ⟨_, rfl, a, C, dx, _, _, rfl, ha, R.ci.cl, R.nT, rf_top _ _, .inr ⟨_, rfl, by omega, ?_⟩⟩
      have l1 := int_len (i := n) (by omega)
      have l2 := int_len (i := m) (by omega)
      have lS : (Str.ofString "/").length = 1 := by decide +kernel
      refine ⟨_, rfl, by rw [Str.empty_append, sizeLine_eq]; omega, _, rfl, by rw [Str.empty_append, Str.length_append, lS, sizeLine_eq]; omega, ?_⟩
      refine ⟨_, rfl, a, C, dx, _, _, rfl, ha, R.ci.cl, R.nB, rf_bot _ _, .inr ⟨_, rfl, by omega, _, rfl, by rw [Str.empty_append, Str.length_append, Str.length_append, lS, sizeLine_eq]; omega, ?_⟩⟩
      unfold rTxt at k
      rw [if_neg e] at k
      rw [Str.empty_append]
      exact k
end
end Fu

/-! Ratio's operators as rules over numbers: Ratios and ints. -/
namespace Fu
open PySem L2
open PyProof.Rows hiding St
open L2H (RoomH roomH_of)
def isRt : D → Bool
  | .rat _ _ => true
  | _ => false
/-- a method of the class, with its promise -/
def MethO (P : Program) (w : World) (K : PySem.W.Frag) (mg : Str → Option Value) (base : Heap) (C : Addr) (x : Str) (k : Nat) (ps : List Str) (sp : Sp) : Prop :=
  ∃ (f : Addr) (fd : FuncData), FnOk P w K mg base CX0 k f fd ps sp ∧ Own K C x f ∧ Binds K fd ps [] ∧ PySem.W.keepIn K (.ref f) = true
def BinO (P : Program) (w : World) (K : PySem.W.Frag) (mg : Str → Option Value) (base : Heap) (C : Addr) (op : Operator) (F G : Int → Int → Int → Int → Int) : Prop :=
  ∃ (f g : Addr) (fd fdg : FuncData), FnOk P w K mg base CX0 5 f fd ["self", "other"] (spAr C F) ∧ FnOk P w K mg base CX0 6 g fdg ["self", "other"] (spRr C G) ∧ OwnB K C op f g ∧ Binds K fd ["self", "other"] [] ∧ Binds K fdg ["self", "other"] []
/-- all of it -/
structure RatO (P : Program) (w : World) (K : PySem.W.Frag) (mg : Str → Option Value) (base : Heap) (C : Addr) : Prop where
  r : RatC K C
  r2 : RatK K mg C
  nb : NoB K C
  ne : PySem.W.findIn K (.ref C) "__ne__" = some (some (.builtin "object.__ne__"))
  add : BinO P w K mg base C .Add F_add F_add
  sub : BinO P w K mg base C .Sub F_sub F_rsub
  mul : BinO P w K mg base C .Mult F_mul F_mul
  eq : MethO P w K mg base C "__eq__" 3 ["self", "other"] (spEqR C)
  lt : MethO P w K mg base C "__lt__" 3 ["self", "other"] (spCm C R_lt)
  le : MethO P w K mg base C "__le__" 3 ["self", "other"] (spCm C R_le)
  gt : MethO P w K mg base C "__gt__" 3 ["self", "other"] (spCm C R_gt)
  ge : MethO P w K mg base C "__ge__" 3 ["self", "other"] (spCm C R_ge)
  neg : MethO P w K mg base C "__neg__" 5 ["self"] (spUn C U_neg)
  abs : MethO P w K mg base C "__abs__" 5 ["self"] (spUn C U_abs)
  bool : MethO P w K mg base C "__bool__" 1 ["self"] (spBool C)
  str : MethO P w K mg base C "__str__" 1 ["self"] (spRepr C)
/-- a number of this heap: x is d, that is n / m in lowest terms -/
structure Nm (C : Addr) (H : Hp) (x : V) (d : D) (n m : Int) : Prop where
  at_ : At C H d x
  p : prt d = some (n, m)
  r : Red n m
  sn : small n
  sm : small m
theorem Nm.ex {C : Addr} {H H' : Hp} {x : V} {d : D} {n m : Int} (h : Nm C H x d n m) (s : Same H H') : Nm C H' x d n m := ⟨h.at_.ex s, h.p, h.r, h.sn, h.sm⟩
theorem Nm.cases {C : Addr} {H : Hp} {x : V} {d : D} {n m : Int} (h : Nm C H x d n m) : (x = .int n ∧ m = 1 ∧ d = .int n) ∨ ∃ a dx, x = .ref a ∧ d = .rat n m ∧ H a = some (.ins C dx (rf n m)) := by
  have p := h.p
  have a := h.at_
  cases d with
  | int i =>
    cases p
    exact .inl ⟨a, rfl, rfl⟩
  | rat i j =>
    cases p
    obtain ⟨a, dx, rfl, ha⟩ := a
    exact .inr ⟨a, dx, rfl, rfl, ha⟩
  | _ => cases p
theorem eqR_red {n m i j : Int} {e : D} (p : prt e = some (i, j)) (h : Red n m) (h' : Red i j) : eqR n m e = decide (n * j = i * m) := by
  unfold eqR
  rw [p]
  by_cases q : n * j = i * m
  · obtain ⟨rfl, rfl⟩ := red_one h h' q
    simp
  · rw [decide_eq_false q]
    have : ¬ (n = i ∧ m = j) := by
      rintro ⟨rfl, rfl⟩
      exact q rfl
    simpa using this
theorem nf_num {K : PySem.W.Frag} {C : Addr} {e : D} {i j : Int} (p : prt e = some (i, j)) : PySem.W.notFirst K C (tyD C e) = true := by
  cases e with
  | int i => exact nf_int
  | rat i j => simp [tyD, PySem.W.notFirst]
  | _ => cases p
section
variable {X : Cx} {C : Addr}
/-- x op y of numbers, not both ints -/
def rNumC (C : Addr) (R : Int → Int → Bool) : R2 := fun x y H Q => ∃ d e n m i j, Nm C H x d n m ∧ Nm C H y e i j ∧ (isRt d || isRt e) = true ∧ ∀ H', Same H H' → Q (.bl (R (n * j) (i * m))) H'
theorem op_numC {op : CmpOp} {R R' : Int → Int → Bool} (O : RatO X.prog X.w X.K X.mg X.base C) (hr : Room 3 X.A) (Ic : IntC op C) (h : MethO X.prog X.w X.K X.mg X.base C (cmpInfo op).2.1 3 ["self", "other"] (spCm C R)) (h' : MethO X.prog X.w X.K X.mg X.base C (cmpInfo op).2.2 3 ["self", "other"] (spCm C R'))
    (hR : ∀ a b, R' a b = R b a) (ho : ∀ a b, compareOp op a b = richCompare op a b) : OpR X (compareOp op) (rNumC C R) := by
  intro pins s σ H x y u v Q I rx ry z
  obtain ⟨d, e, n, m, i, j, hx, hy, hne, k⟩ := z
  obtain ⟨f, fd, F, M, b, _⟩ := h
  obtain ⟨f', fd', F', M', b', _⟩ := h'
  rcases hx.cases with ⟨rfl, rfl, rfl⟩ | ⟨a, dx, rfl, rfl, ha⟩
  · rcases hy.cases with ⟨rfl, rfl, rfl⟩ | ⟨a, dx, rfl, rfl, ha⟩
    · cases hne
    · refine op_cmpR Ic F' hr (O.nb.m _ (by decide)) M' b' ho pins s σ H _ _ u v Q I rx ry ⟨n, a, dx, _, rfl, rfl, ha, a, dx, i, j, .int n, .int n, n, 1, rfl, ha, rfl, rfl, hy.sn, hy.sm, hx.sn, small_one, fun H' s' => ?_⟩
      rw [hR]
      exact k H' s'
  · exact op_own F hr M.at_ M.fn b pass0 ho pins s σ H _ _ u v Q I rx ry ⟨a, dx, _, tyD C e, rfl, ha, ty_at O.r.ci hy.at_, nf_num hy.p, a, dx, n, m, e, y, i, j, rfl, ha, hy.at_, hy.p, hx.sn, hx.sm, hy.sn, hy.sm, k⟩
theorem op_numLt (O : RatO X.prog X.w X.K X.mg X.base C) (hr : Room 3 X.A) : OpR X (compareOp .Lt) (rNumC C R_lt) := op_numC O hr intc_lt O.lt O.gt (fun _ _ => rfl) fun _ _ => rfl
theorem op_numLe (O : RatO X.prog X.w X.K X.mg X.base C) (hr : Room 3 X.A) : OpR X (compareOp .LtE) (rNumC C R_le) := op_numC O hr intc_le O.le O.ge (fun _ _ => rfl) fun _ _ => rfl
theorem op_numGt (O : RatO X.prog X.w X.K X.mg X.base C) (hr : Room 3 X.A) : OpR X (compareOp .Gt) (rNumC C R_gt) := op_numC O hr intc_gt O.gt O.lt (fun _ _ => rfl) fun _ _ => rfl
theorem op_numGe (O : RatO X.prog X.w X.K X.mg X.base C) (hr : Room 3 X.A) : OpR X (compareOp .GtE) (rNumC C R_ge) := op_numC O hr intc_ge O.ge O.le (fun _ _ => rfl) fun _ _ => rfl
def R_eq (a b : Int) : Bool := decide (a = b)
def R_ne (a b : Int) : Bool := !decide (a = b)
theorem R_eq_comm (a b : Int) : R_eq a b = R_eq b a := by
  unfold R_eq
  rw [Bool.eq_iff_iff, decide_eq_true_eq, decide_eq_true_eq]
  exact ⟨Eq.symm, Eq.symm⟩
theorem op_numEq (O : RatO X.prog X.w X.K X.mg X.base C) (hr : Room 3 X.A) : OpR X (compareOp .Eq) (rNumC C R_eq) := by
  intro pins s σ H x y u v Q I rx ry z
  obtain ⟨d, e, n, m, i, j, hx, hy, hne, k⟩ := z
  obtain ⟨f, fd, F, M, b, _⟩ := O.eq
  rcases hx.cases with ⟨rfl, rfl, rfl⟩ | ⟨a, dx, rfl, rfl, ha⟩
  · rcases hy.cases with ⟨rfl, rfl, rfl⟩ | ⟨a, dx, rfl, rfl, ha⟩
    · cases hne
    · refine op_cmpR intc_eq F hr (O.nb.m _ (by decide)) M b (fun _ _ => rfl) pins s σ H _ _ u v Q I rx ry ⟨n, a, dx, _, rfl, rfl, ha, a, dx, i, j, .int n, .int n, rfl, ha, rfl, fun H' s' => ?_⟩
      rw [eqR_red hx.p hy.r hx.r]
      have q := k H' s'
      rw [R_eq_comm] at q
      exact q
  · refine op_own F hr M.at_ M.fn b pass0 (fun _ _ => rfl) pins s σ H _ _ u v Q I rx ry ⟨a, dx, _, tyD C e, rfl, ha, ty_at O.r.ci hy.at_, nf_num hy.p, a, dx, n, m, e, y, rfl, ha, hy.at_, fun H' s' => ?_⟩
    rw [eqR_red hy.p hx.r hy.r]
    exact k H' s'
theorem op_numNe (O : RatO X.prog X.w X.K X.mg X.base C) (hr : Room 4 X.A) : OpR X (compareOp .NotEq) (rNumC C R_ne) := by
  intro pins s σ H x y u v Q I rx ry z
  obtain ⟨d, e, n, m, i, j, hx, hy, hne, k⟩ := z
  obtain ⟨f, fd, F, M, b, _⟩ := O.eq
  rcases hx.cases with ⟨rfl, rfl, rfl⟩ | ⟨a, dx, rfl, rfl, ha⟩
  · rcases hy.cases with ⟨rfl, rfl, rfl⟩ | ⟨a, dx, rfl, rfl, ha⟩
    · cases hne
    · refine op_neR F hr (O.nb.m _ (by decide)) O.r.ci.hm O.ne M b pins s σ H _ _ u v Q I rx ry ⟨n, a, dx, _, rfl, rfl, ha, a, dx, i, j, .int n, .int n, rfl, ha, rfl, fun H' s' => ⟨_, rfl, ?_⟩⟩
      rw [eqR_red hx.p hy.r hx.r]
      have q := k H' s'
      have e := R_eq_comm (n * j) (i * 1)
      unfold R_eq at e
      unfold R_ne at q
      rw [e] at q
      exact q
  · refine op_neOwn F hr O.r.ci.hm O.ne M.at_ M.fn b pins s σ H _ _ u v Q I rx ry ⟨a, dx, _, tyD C e, rfl, ha, ty_at O.r.ci hy.at_, nf_num hy.p, a, dx, n, m, e, y, rfl, ha, hy.at_, fun H' s' => ⟨_, rfl, ?_⟩⟩
    rw [eqR_red hy.p hx.r hy.r]
    exact k H' s'
/-- x + y and its like -/
def rNumA (C : Addr) (F : Int → Int → Int → Int → Int) : R2 := fun x y H Q => ∃ d e n m i j, Nm C H x d n m ∧ Nm C H y e i j ∧ (isRt d || isRt e) = true ∧ NewR C H (F n m i j) (m * j) Q
theorem op_numA {op : Operator} {F G : Int → Int → Int → Int → Int} (hr : Room 6 X.A) (h : BinO X.prog X.w X.K X.mg X.base C op F G) (hG : ∀ n m i, G n m i 1 = F i 1 n m) : OpR X (binaryOp op) (rNumA C F) := by
  intro pins s σ H x y u v Q I rx ry z
  obtain ⟨d, e, n, m, i, j, hx, hy, hne, k⟩ := z
  obtain ⟨f, g, fd, fdg, F1, F2, O, b1, b2⟩ := h
  rcases hx.cases with ⟨rfl, rfl, rfl⟩ | ⟨a, dx, rfl, rfl, ha⟩
  · rcases hy.cases with ⟨rfl, rfl, rfl⟩ | ⟨a, dx, rfl, rfl, ha⟩
    · cases hne
    · refine op_binR F2 hr O b2 pins s σ H _ _ u v Q I rx ry ⟨n, a, dx, _, rfl, rfl, ha, a, dx, i, j, n, rfl, ha, hy.r, hy.sn, hy.sm, hx.sn, ?_⟩
      rw [hG, Int.mul_comm]
      exact k
  · refine op_bin F1 (hr.mono (by decide)) O b1 pins s σ H _ _ u v Q I rx ry ⟨a, dx, _, rfl, ha, ?_, a, dx, n, m, e, y, i, j, rfl, ha, hy.at_, hy.p, hx.r, hy.r.1, hx.sn, hx.sm, hy.sn, hy.sm, k⟩
    rcases hy.cases with ⟨rfl, rfl, rfl⟩ | ⟨a', dx', rfl, rfl, ha'⟩
    · exact .inl ⟨_, rfl⟩
    · exact .inr ⟨_, _, _, rfl, ha'⟩
theorem op_numAdd (O : RatO X.prog X.w X.K X.mg X.base C) (hr : Room 6 X.A) : OpR X (binaryOp .Add) (rNumA C F_add) := op_numA hr O.add fun n m i => by unfold F_add; rw [Int.add_comm, Int.mul_comm n 1]
theorem op_numSub (O : RatO X.prog X.w X.K X.mg X.base C) (hr : Room 6 X.A) : OpR X (binaryOp .Sub) (rNumA C F_sub) := op_numA hr O.sub fun n m i => by unfold F_rsub F_add F_sub; omega
theorem op_numMul (O : RatO X.prog X.w X.K X.mg X.base C) (hr : Room 6 X.A) : OpR X (binaryOp .Mult) (rNumA C F_mul) := op_numA hr O.mul fun n m i => by unfold F_mul; rw [Int.mul_comm]
end
end Fu

/-! The mirror layer: operators on data. Ratios are rationals. -/
namespace Mi
open PySem L2
open PyProof.Rows hiding St

/-- the rational is small enough for Ratio's own reckoning -/
def sm (q : Rat) : Bool := decide (q.num.natAbs.log2 < 4000) && decide (q.den.log2 < 4000)
theorem sm_num {q : Rat} (h : sm q = true) : Fu.small q.num := by
  unfold sm at h
  rw [Bool.and_eq_true, decide_eq_true_eq] at h
  exact h.1
theorem sm_den {q : Rat} (h : sm q = true) : Fu.small (q.den : Int) := by
  unfold sm at h
  rw [Bool.and_eq_true, decide_eq_true_eq, decide_eq_true_eq] at h
  exact h.2
theorem red_rat (q : Rat) : Fu.Red q.num q.den := by
  refine ⟨by have := q.den_nz; omega, ?_⟩
  have h := q.reduced
  exact h
/-- a quotient in lowest terms that equals q is q's own -/
theorem rat_red {n m : Int} {q : Rat} (h : Fu.Red n m) (e : n * q.den = q.num * m) : n = q.num ∧ m = q.den := Fu.red_one h (red_rat q) e
section
variable {X : Cx} {Γ : Ct} {C : Addr}
/-- numbers -/
def num : D → Option Rat
  | .int i => some (i : Rat)
  | .rat q => some q
  | _ => none
def isRat : D → Bool
  | .rat _ => true
  | _ => false
theorem num_at {H M : Hp} {d : D} {v : V} {q : Rat} (hs : Same M H) (h : AtT Γ H M d v) (e : num d = some q) (s : sm q = true) : ∃ d', Fu.Nm Γ.R H v d' q.num q.den ∧ Fu.isRt d' = isRat d := by
  cases d with
  | int i =>
    cases e
    obtain rfl := h
    exact ⟨.int i, ⟨rfl, rfl, red_rat _, sm_num s, sm_den s⟩, rfl⟩
  | rat p =>
    cases e
    obtain ⟨a, dx, rfl, ha⟩ := h
    exact ⟨.rat q.num q.den, ⟨⟨a, dx, rfl, ha⟩, rfl, red_rat _, sm_num s, sm_den s⟩, rfl⟩
  | _ => cases e
/-- p op q of numbers, not both ints -/
def arR (f : Rat → Rat → Rat) (d e : D) : Option Sl := (num d).bind fun p => (num e).bind fun q => if (sm p && sm q && (isRat d || isRat e)) = true then some (.va (.rat (f p q))) else none
theorem den_pos (q : Rat) : (q.den : Int) ≠ 0 := by have := q.den_nz; omega
theorem cross_add (p q : Rat) : (p + q).num * ((p.den : Int) * q.den) = (p.num * q.den + q.num * p.den) * (p + q).den := by
  have h := Rat.add_def' p q
  rw [← Rat.mkRat_self (p + q)] at h
  have := (Rat.mkRat_eq_iff (p + q).den_nz (Nat.mul_ne_zero p.den_nz q.den_nz)).mp h
  rw [Int.natCast_mul] at this
  exact this
theorem cross_sub (p q : Rat) : (p - q).num * ((p.den : Int) * q.den) = (p.num * q.den - q.num * p.den) * (p - q).den := by
  have h := Rat.sub_def' p q
  rw [← Rat.mkRat_self (p - q)] at h
  have := (Rat.mkRat_eq_iff (p - q).den_nz (Nat.mul_ne_zero p.den_nz q.den_nz)).mp h
  rw [Int.natCast_mul] at this
  exact this
theorem cross_mul (p q : Rat) : (p * q).num * ((p.den : Int) * q.den) = (p.num * q.num) * (p * q).den := by
  have h := Rat.mul_def' p q
  rw [← Rat.mkRat_self (p * q)] at h
  have := (Rat.mkRat_eq_iff (p * q).den_nz (Nat.mul_ne_zero p.den_nz q.den_nz)).mp h
  rw [Int.natCast_mul] at this
  exact this
theorem new_rat {H M : Hp} {n m : Int} {q : Rat} {Q : VK} (hs : Same M H) (h0 : m ≠ 0) (e : q.num * m = n * q.den) (k : ∀ v H', Post Γ H M (.va (.rat q)) v H' → Q v H') : Fu.NewR Γ.R H n m Q := by
  intro p dx H' n' m' s np hp rd c l1 l2
  have hc : n' * q.den = q.num * m' := by
    have h1 : n' * q.den * m = q.num * m' * m := by
      calc n' * q.den * m = (n' * m) * q.den := by rw [Int.mul_assoc, Int.mul_comm (q.den : Int) m, ← Int.mul_assoc]
        _ = (n * m') * q.den := by rw [c]
        _ = (n * q.den) * m' := by rw [Int.mul_assoc, Int.mul_comm m', ← Int.mul_assoc]
        _ = (q.num * m) * m' := by rw [e]
        _ = q.num * m' * m := by rw [Int.mul_assoc, Int.mul_comm m m', ← Int.mul_assoc]
    exact Int.eq_of_mul_eq_mul_right h0 h1
  obtain ⟨rfl, rfl⟩ := rat_red rd hc
  have np' : M p = none := hs.free np
  refine k _ _ ⟨upd M p (.ins Γ.R dx (Fu.rf q.num q.den)), ⟨s, fun b u e => by rw [upd_ne (ne_of_none e np')]; exact e, fun b u e => ?_, fun b u e => ?_⟩, p, dx, rfl, upd_same⟩
  · by_cases h : b = p
    · subst h
      rw [upd_same] at e
      rw [← e]
      exact hp
    · rw [upd_ne h] at e
      exact s b u (hs b u e)
  · by_cases h : b = p
    · subst h
      exact .inr np
    · rw [upd_ne h] at e
      exact .inl e
theorem arR_ok {f : Rat → Rat → Rat} {FF : Int → Int → Int → Int → Int} (hf : ∀ p q : Rat, (f p q).num * ((p.den : Int) * q.den) = FF p.num p.den q.num q.den * (f p q).den) {H M : Hp} {x y : V} {d e : D} {r : Sl} {Q : VK} (hs : Same M H) (h1 : AtT Γ H M d x) (h2 : AtT Γ H M e y)
    (hr : arR f d e = some r) (k : ∀ v H', Post Γ H M r v H' → Q v H') : Fu.rNumA Γ.R FF x y H Q := by
  unfold arR at hr
  cases e1 : num d with
  | none => simp [e1] at hr
  | some p =>
    cases e2 : num e with
    | none => simp [e1, e2] at hr
    | some q =>
      simp only [e1, e2, Option.bind_some] at hr
      split at hr
      · rename_i hc
        cases hr
        rw [Bool.and_eq_true, Bool.and_eq_true] at hc
        obtain ⟨d', n1, i1⟩ := num_at hs h1 e1 hc.1.1
        obtain ⟨e', n2, i2⟩ := num_at hs h2 e2 hc.1.2
        refine ⟨d', e', _, _, _, _, n1, n2, by rw [i1, i2]; exact hc.2, new_rat hs ?_ (hf p q) k⟩
        exact Int.mul_ne_zero (den_pos p) (den_pos q)
      · cases hr
def cmR (f : Rat → Rat → Bool) (d e : D) : Option Sl := (num d).bind fun p => (num e).bind fun q => if (sm p && sm q && (isRat d || isRat e)) = true then some (.va (.bl (f p q))) else none
theorem cmR_ok {f : Rat → Rat → Bool} {R : Int → Int → Bool} (hf : ∀ p q : Rat, f p q = R (p.num * q.den) (q.num * p.den)) {H M : Hp} {x y : V} {d e : D} {r : Sl} {Q : VK} (hs : Same M H) (h1 : AtT Γ H M d x) (h2 : AtT Γ H M e y)
    (hr : cmR f d e = some r) (k : ∀ v H', Post Γ H M r v H' → Q v H') : Fu.rNumC Γ.R R x y H Q := by
  unfold cmR at hr
  cases e1 : num d with
  | none => simp [e1] at hr
  | some p =>
    cases e2 : num e with
    | none => simp [e1, e2] at hr
    | some q =>
      simp only [e1, e2, Option.bind_some] at hr
      split at hr
      · rename_i hc
        cases hr
        rw [Bool.and_eq_true, Bool.and_eq_true] at hc
        obtain ⟨d', n1, i1⟩ := num_at hs h1 e1 hc.1.1
        obtain ⟨e', n2, i2⟩ := num_at hs h2 e2 hc.1.2
        refine ⟨d', e', _, _, _, _, n1, n2, by rw [i1, i2]; exact hc.2, fun H' s => ?_⟩
        rw [← hf]
        exact k _ _ ⟨M, ⟨s, Same.refl M, hs.trans s, fun _ _ e => .inl e⟩, rfl⟩
      · cases hr

theorem Post.bl {H M : Hp} {b : Bool} (s : Same M H) : Post Γ H M (.va (.bl b)) (.bl b) H := Post.va s rfl
theorem Post.int {H M : Hp} {i : Int} (s : Same M H) : Post Γ H M (.va (.int i)) (.int i) H := Post.va s rfl

/-! ### + - * // % ** -/
def sAdd : D → D → Option Sl
  | .int i, .int j => some (.va (.int (i + j)))
  | .str x, .str y => if x.length + y.length ≤ 100000 then some (.va (.str (x ++ y))) else none
  | .lst l, .lst m => if l.length + m.length ≤ 100000 then some (.ow 0 (.lst (l ++ m))) else none
  | .tup l, .tup m => if l.length + m.length ≤ 100000 ∧ l.length ≠ 0 ∧ m.length ≠ 0 then some (.va (.tup (l ++ m))) else none
  | d, e => arR (· + ·) d e
theorem od_add (O : Fu.RatO X.prog X.w X.K X.mg X.base Γ.R) (hr : Room 6 X.A) : OpD X Γ (binaryOp .Add) sAdd := by
  refine ⟨_, op_add.or (op_add_str.or (op_cat.or (op_catT.or (Fu.op_numAdd O hr)))), fun H M x y d e r Q s h1 h2 hs k => ?_⟩
  unfold sAdd at hs
  split at hs
  · cases hs
    obtain rfl := h1
    obtain rfl := h2
    exact .inl ⟨_, _, rfl, rfl, k _ _ (Post.int s)⟩
  · split at hs
    · cases hs
      obtain rfl := h1
      obtain rfl := h2
      exact .inr (.inl ⟨_, _, rfl, rfl, Evl.sz_of (by assumption), k _ _ (Post.va s rfl)⟩)
    · cases hs
  · split at hs
    · rename_i hl
      cases hs
      obtain ⟨a, xs, rfl, ha, hxs⟩ := h1
      obtain ⟨b, ys, rfl, hb, hys⟩ := h2
      refine .inr (.inr (.inl ⟨a, b, xs, ys, rfl, rfl, ha, hb, by rw [hxs.len, hys.len]; exact Evl.sz_of hl, fun p hp => k _ _ ?_⟩))
      exact ⟨M, Grow.own s hp, p, rfl, hp, s.free hp, _, upd_same, hxs.append hys⟩
    · cases hs
  · split at hs
    · rename_i hl
      cases hs
      obtain ⟨a, xs, rfl, ha, hxs⟩ := h1
      obtain ⟨b, ys, rfl, hb, hys⟩ := h2
      have n1 : xs ≠ [] := fun z => hl.2.1 (by rw [← hxs.len, z]; rfl)
      have n2 : ys ≠ [] := fun z => hl.2.2 (by rw [← hys.len, z]; rfl)
      refine .inr (.inr (.inr (.inl ⟨a, b, xs, ys, rfl, rfl, SqT.of ha, SqT.of hb, n1, by rw [hxs.len, hys.len]; exact Evl.sz_of hl.1, fun z => absurd z n2, fun _ p hp => k _ _ ?_⟩)))
      have G := Grow.new (o := .tup (xs ++ ys)) s hp
      exact ⟨_, G, p, _, rfl, upd_same, (hxs.append hys).ex G.m⟩
    · cases hs
  · exact .inr (.inr (.inr (.inr (arR_ok (fun p q => cross_add p q) s h1 h2 hs k))))
def sSub : D → D → Option Sl
  | .int i, .int j => some (.va (.int (i - j)))
  | d, e => arR (· - ·) d e
theorem od_sub (O : Fu.RatO X.prog X.w X.K X.mg X.base Γ.R) (hr : Room 6 X.A) : OpD X Γ (binaryOp .Sub) sSub := by
  refine ⟨_, op_sub.or (Fu.op_numSub O hr), fun H M x y d e r Q s h1 h2 hs k => ?_⟩
  unfold sSub at hs
  split at hs
  · cases hs
    obtain rfl := h1
    obtain rfl := h2
    exact .inl ⟨_, _, rfl, rfl, k _ _ (Post.int s)⟩
  · exact .inr (arR_ok (fun p q => cross_sub p q) s h1 h2 hs k)
/-- a product of ints: one factor below 2 ^ 64, or both small -/
def mulOk (i j : Int) : Bool := decide (i.natAbs < 2 ^ 64) || decide (j.natAbs < 2 ^ 64) || decide (i.natAbs.log2 + j.natAbs.log2 < 900000)
def sMul : D → D → Option Sl
  | .int i, .int j => if mulOk i j = true then some (.va (.int (i * j))) else none
  | .lst l, .int k => if l.length * k.toNat ≤ 100000 ∧ k.natAbs ≤ 100000 then some (.ow 0 (.lst (List.replicate k.toNat l).flatten)) else none
  | d, e => arR (· * ·) d e
theorem Ats.rep {H : Hp} {l : List D} {xs : List V} (h : Ats Γ H l xs) : ∀ k : Nat, Ats Γ H (List.replicate k l).flatten (List.replicate k xs).flatten
  | 0 => rfl
  | k + 1 => by
    rw [List.replicate_succ, List.replicate_succ, List.flatten_cons, List.flatten_cons]
    exact h.append (Ats.rep h k)
theorem od_mul (O : Fu.RatO X.prog X.w X.K X.mg X.base Γ.R) (hr : Room 6 X.A) : OpD X Γ (binaryOp .Mult) sMul := by
  refine ⟨_, op_mul.or (op_mulW.or (op_rep.or (Fu.op_numMul O hr))), fun H M x y d e r Q s h1 h2 hs k => ?_⟩
  unfold sMul at hs
  split at hs
  · split at hs
    · rename_i hm
      cases hs
      obtain rfl := h1
      obtain rfl := h2
      unfold mulOk at hm
      rw [Bool.or_eq_true, Bool.or_eq_true, decide_eq_true_eq, decide_eq_true_eq, decide_eq_true_eq] at hm
      rcases hm with (hm | hm) | hm
      · exact .inl ⟨_, _, rfl, rfl, .inl ⟨by omega, by omega⟩, k _ _ (Post.int s)⟩
      · exact .inl ⟨_, _, rfl, rfl, .inr ⟨by omega, by omega⟩, k _ _ (Post.int s)⟩
      · exact .inr (.inl ⟨_, _, rfl, rfl, by unfold CMulW; omega, k _ _ (Post.int s)⟩)
    · cases hs
  · split at hs
    · rename_i j hl
      cases hs
      obtain ⟨a, xs, rfl, ha, hxs⟩ := h1
      obtain rfl := h2
      refine .inr (.inr (.inl ⟨a, _, xs, rfl, rfl, ha, by omega, by omega, by rw [hxs.len]; exact Evl.sz_of hl.1, fun p hp => k _ _ ?_⟩))
      exact ⟨M, Grow.own s hp, p, rfl, hp, s.free hp, _, upd_same, hxs.rep _⟩
    · cases hs
  · exact .inr (.inr (.inr (arR_ok (fun p q => cross_mul p q) s h1 h2 hs k)))
def sDiv : D → D → Option Sl
  | .int i, .int j => if j ≠ 0 ∧ j.natAbs.log2 < 9000 then some (.va (.int (i.fdiv j))) else none
  | _, _ => none
theorem od_div : OpD X Γ (binaryOp .FloorDiv) sDiv := by
  refine ⟨_, Fu.op_fdivB, fun H M x y d e r Q s h1 h2 hs k => ?_⟩
  unfold sDiv at hs
  split at hs
  · split at hs
    · cases hs
      obtain rfl := h1
      obtain rfl := h2
      exact ⟨_, _, rfl, rfl, by assumption, k _ _ (Post.int s)⟩
    · cases hs
  · cases hs
def sMod : D → D → Option Sl
  | .int i, .int j => if j ≠ 0 then some (.va (.int (i.fmod j))) else none
  | _, _ => none
theorem od_mod : OpD X Γ (binaryOp .Mod) sMod := by
  refine ⟨_, op_modN, fun H M x y d e r Q s h1 h2 hs k => ?_⟩
  unfold sMod at hs
  split at hs
  · split at hs
    · cases hs
      obtain rfl := h1
      obtain rfl := h2
      exact ⟨_, _, rfl, rfl, by assumption, k _ _ (Post.int s)⟩
    · cases hs
  · cases hs
def sPow : D → D → Option Sl
  | .int i, .int j => if 0 ≤ j ∧ j ≤ 100000 ∧ i.natAbs < 2 ^ 64 then some (.va (.int (i ^ j.toNat))) else none
  | _, _ => none
theorem od_pow : OpD X Γ (binaryOp .Pow) sPow := by
  refine ⟨_, op_pow, fun H M x y d e r Q s h1 h2 hs k => ?_⟩
  unfold sPow at hs
  split at hs
  · split at hs
    · rename_i hc
      cases hs
      obtain rfl := h1
      obtain rfl := h2
      exact ⟨_, _, rfl, rfl, ⟨hc.1, by omega, hc.2.2⟩, k _ _ (Post.int s)⟩
    · cases hs
  · cases hs
def sNeg : D → Option Sl
  | .int i => some (.va (.int (-i)))
  | .rat q => if sm q = true then some (.va (.rat (-q))) else none
  | _ => none

/-! ### orders -/
def sLt : D → D → Option Sl
  | .int i, .int j => some (.va (.bl (decide (i < j))))
  | d, e => cmR (fun p q => decide (p < q)) d e
def sLe : D → D → Option Sl
  | .int i, .int j => some (.va (.bl (decide (i ≤ j))))
  | d, e => cmR (fun p q => decide (p ≤ q)) d e
def sGt : D → D → Option Sl
  | .int i, .int j => some (.va (.bl (decide (j < i))))
  | d, e => cmR (fun p q => decide (q < p)) d e
def sGe : D → D → Option Sl
  | .int i, .int j => some (.va (.bl (decide (j ≤ i))))
  | d, e => cmR (fun p q => decide (q ≤ p)) d e
theorem dec_iff {p q : Prop} [Decidable p] [Decidable q] (h : p ↔ q) : decide p = decide q := by
  by_cases hp : p
  · rw [decide_eq_true hp, decide_eq_true (h.mp hp)]
  · rw [decide_eq_false hp, decide_eq_false fun z => hp (h.mpr z)]
theorem od_lt (O : Fu.RatO X.prog X.w X.K X.mg X.base Γ.R) (hr : Room 3 X.A) : OpD X Γ (compareOp .Lt) sLt := by
  refine ⟨_, op_lt.or (Fu.op_numLt O hr), fun H M x y d e r Q s h1 h2 hs k => ?_⟩
  unfold sLt at hs
  split at hs
  · cases hs
    obtain rfl := h1
    obtain rfl := h2
    exact .inl ⟨_, _, rfl, rfl, k _ _ (Post.bl s)⟩
  · exact .inr (cmR_ok (fun p q => dec_iff (Rat.lt_iff p q)) s h1 h2 hs k)
theorem od_le (O : Fu.RatO X.prog X.w X.K X.mg X.base Γ.R) (hr : Room 3 X.A) : OpD X Γ (compareOp .LtE) sLe := by
  refine ⟨_, op_le.or (Fu.op_numLe O hr), fun H M x y d e r Q s h1 h2 hs k => ?_⟩
  unfold sLe at hs
  split at hs
  · cases hs
    obtain rfl := h1
    obtain rfl := h2
    exact .inl ⟨_, _, rfl, rfl, k _ _ (Post.bl s)⟩
  · exact .inr (cmR_ok (fun p q => dec_iff (Rat.le_iff p q)) s h1 h2 hs k)
theorem od_gt (O : Fu.RatO X.prog X.w X.K X.mg X.base Γ.R) (hr : Room 3 X.A) : OpD X Γ (compareOp .Gt) sGt := by
  refine ⟨_, op_gt.or (Fu.op_numGt O hr), fun H M x y d e r Q s h1 h2 hs k => ?_⟩
  unfold sGt at hs
  split at hs
  · cases hs
    obtain rfl := h1
    obtain rfl := h2
    exact .inl ⟨_, _, rfl, rfl, k _ _ (Post.bl s)⟩
  · exact .inr (cmR_ok (fun p q => dec_iff (Rat.lt_iff q p)) s h1 h2 hs k)
theorem od_ge (O : Fu.RatO X.prog X.w X.K X.mg X.base Γ.R) (hr : Room 3 X.A) : OpD X Γ (compareOp .GtE) sGe := by
  refine ⟨_, op_ge.or (Fu.op_numGe O hr), fun H M x y d e r Q s h1 h2 hs k => ?_⟩
  unfold sGe at hs
  split at hs
  · cases hs
    obtain rfl := h1
    obtain rfl := h2
    exact .inl ⟨_, _, rfl, rfl, k _ _ (Post.bl s)⟩
  · exact .inr (cmR_ok (fun p q => dec_iff (Rat.le_iff q p)) s h1 h2 hs k)
/-! ### is None -/
def isNon : D → Bool
  | .non => true
  | _ => false
theorem isNon_at {H M : Hp} {d : D} {x : V} (h : AtT Γ H M d x) : decide (x = V.non) = isNon d := by
  cases d with
  | non =>
    obtain rfl := h
    rfl
  | bl b =>
    obtain rfl := h
    rfl
  | int i =>
    obtain rfl := h
    rfl
  | str y =>
    obtain rfl := h
    rfl
  | lst l =>
    obtain ⟨a, xs, rfl, _⟩ := h
    rfl
  | tup l =>
    obtain ⟨a, xs, rfl, _⟩ := h
    rfl
  | dic ks l =>
    obtain ⟨a, xs, rfl, _⟩ := h
    rfl
  | rat q =>
    obtain ⟨a, xs, rfl, _⟩ := h
    rfl
  | obj c l =>
    obtain ⟨a, xs, fs, rfl, _⟩ := h
    rfl
def sIs : D → D → Option Sl
  | d, .non => some (.va (.bl (isNon d)))
  | _, _ => none
def sIsNot : D → D → Option Sl
  | d, .non => some (.va (.bl (!isNon d)))
  | _, _ => none
theorem od_is : OpD X Γ (compareOp .Is) sIs := by
  refine ⟨_, op_isN, fun H M x y d e r Q s h1 h2 hs k => ?_⟩
  unfold sIs at hs
  split at hs
  · cases hs
    obtain rfl := h2
    refine ⟨rfl, ?_⟩
    rw [isNon_at h1]
    exact k _ _ (Post.bl s)
  · cases hs
theorem od_isnot : OpD X Γ (compareOp .IsNot) sIsNot := by
  refine ⟨_, op_notN, fun H M x y d e r Q s h1 h2 hs k => ?_⟩
  unfold sIsNot at hs
  split at hs
  · cases hs
    obtain rfl := h2
    refine ⟨rfl, ?_⟩
    rw [isNon_at h1]
    exact k _ _ (Post.bl s)
  · cases hs
end
end Mi

/-! The mirror layer: storing in slots, calls of defs. -/
namespace Mi
open PySem L2
open PyProof.Rows hiding St

section
variable {Γ : Ct} {F : Fr} {M M' H H' : Hp} {T : List (Sl × Option V)} {S : List Sl} {σ σ' : St} {p : Sl × Option V}
theorem SlAt.slots {s : Sl} {v : Option V} (h : SlAt Γ F σ H M s v) (n : s.isRf = false) : SlAt Γ F σ' H M s v := by
  cases s with
  | rf i => cases n
  | _ => exact h
/-- the value on top of the pile is stored -/
theorem RepM.put {i : Nat} {r : Sl} {v : V} (R : RepM Γ F M ((r, some v) :: T) S σ H) (hr : r.isRf = false) (hT : ∀ p ∈ T, p.1.isRf = false) (hi : i < S.length) : RepM Γ F M T (S.set i r) (σ.set i (some v)) H := by
  have dT := List.pairwise_cons.mp R.disT
  have hiσ : i < σ.length := by rw [← R.len]; exact hi
  have gS : ∀ j : Nat, (S.set i r)[j]? = if i = j then some r else S[j]? := fun j => by
    by_cases e : i = j
    · subst e
      rw [if_pos rfl, List.getElem?_set_self hi]
    · rw [if_neg e, List.getElem?_set_ne e]
  have gσ : ∀ j : Nat, (σ.set i (some v))[j]? = if i = j then some (some v) else σ[j]? := fun j => by
    by_cases e : i = j
    · subst e
      rw [if_pos rfl, List.getElem?_set_self hiσ]
    · rw [if_neg e, List.getElem?_set_ne e]
  refine ⟨by rw [List.length_set, List.length_set]; exact R.len, fun j s hj => ?_, R.sub, R.frm, R.old, R.new, fun p hp => (R.allT p (List.mem_cons_of_mem _ hp)).slots (hT p hp), fun j s w h1 h2 => ?_, dT.2, fun j k s s' w ne h1 h2 o1 o2 h3 h4 => ?_, fun p hp ow j s h1 o1 h2 => ?_⟩
  · rw [gS] at hj
    by_cases e : i = j
    · rw [if_pos e] at hj
      cases hj
      exact hr
    · rw [if_neg e] at hj
      exact R.nrf j s hj
  · rw [gS] at h1
    rw [gσ] at h2
    by_cases e : i = j
    · rw [if_pos e] at h1 h2
      cases h1
      cases h2
      exact (R.allT _ List.mem_cons_self).slots hr
    · rw [if_neg e] at h1 h2
      exact (R.allS j s w h1 h2).slots (R.nrf j s h1)
  · rw [gS] at h1 h2
    rw [gσ] at h3 h4
    by_cases e : i = j
    · rw [if_pos e] at h1 h3
      cases h1
      cases h3
      by_cases e' : i = k
      · exact ne (e.symm.trans e')
      · rw [if_neg e'] at h2 h4
        exact R.disX _ List.mem_cons_self o1 k s' h2 o2 h4
    · rw [if_neg e] at h1 h3
      by_cases e' : i = k
      · rw [if_pos e'] at h2 h4
        cases h2
        cases h4
        exact R.disX _ List.mem_cons_self o2 j s h1 o1 h3
      · rw [if_neg e'] at h2 h4
        exact R.disS j k s s' w ne h1 h2 o1 o2 h3 h4
  · rw [gS] at h1
    rw [gσ] at h2
    by_cases e : i = j
    · rw [if_pos e] at h1 h2
      cases h1
      exact dT.1 p hp o1 ow (Option.some.inj h2)
    · rw [if_neg e] at h1 h2
      exact R.disX p (List.mem_cons_of_mem _ hp) ow j s h1 o1 h2
end

/-! ### calls: what a def gets, what it gives back -/
abbrev Gf := List Sl → Rs (Sl × List Sl)
/-- an argument as the def sees it, at place j: a datum, or what slot i holds, lent -/
def lendOne (S : List Sl) (j : Nat) : Sl → Option Sl
  | .va d => some (.va d)
  | .rf i => match S[i]? with
    | some (.ow _ d) => some (.ow (j + 1) d)
    | some (.ob _ c l) => some (.ob (j + 1) c l)
    | some (.sc ns) => some (.sc ns)
    | some (.va d) => some (.va d)
    | _ => none
  | _ => none
def lend (S : List Sl) : Nat → List Sl → Option (List Sl)
  | _, [] => some []
  | j, a :: as => (lendOne S j a).bind fun x => (lend S (j + 1) as).map fun xs => x :: xs
def rfIs (i : Nat) : Sl → Bool
  | .rf k => k == i
  | _ => false
def merge : Sl → Sl → Option Sl
  | .ow t _, .ow _ d => some (.ow t d)
  | .ob t c _, .ob _ c' l => if c = c' then some (.ob t c l) else none
  | .sc ns, _ => some (.sc ns)
  | .va d, _ => some (.va d)
  | _, _ => none
def giveAt (args outs : List Sl) (i : Nat) (s : Sl) : Option Sl := match (args.zip outs).find? (fun p => rfIs i p.1) with
  | none => some s
  | some p => merge s p.2
def giveS (args outs : List Sl) : Nat → List Sl → Option (List Sl)
  | _, [] => some []
  | i, s :: S => (giveAt args outs i s).bind fun s' => (giveS args outs (i + 1) S).map fun S' => s' :: S'
/-- no slot is lent twice -/
def differ : Sl → Sl → Bool
  | .rf i, .rf j => i != j
  | _, _ => true
def once : List Sl → Bool
  | [] => true
  | a :: as => as.all (differ a) && once as
theorem once_pw : ∀ {args : List Sl}, once args = true → args.Pairwise fun a b => differ a b = true
  | [], _ => List.Pairwise.nil
  | a :: as, h => by
    unfold once at h
    rw [Bool.and_eq_true, List.all_eq_true] at h
    exact List.pairwise_cons.mpr ⟨h.1, once_pw h.2⟩
theorem lend_get {S : List Sl} : ∀ {args xs : List Sl} {k : Nat}, lend S k args = some xs → xs.length = args.length ∧ ∀ (j : Nat) (a : Sl), args[j]? = some a → ∃ x, xs[j]? = some x ∧ lendOne S (k + j) a = some x
  | [], _, _, e => by
    cases e
    exact ⟨rfl, fun j a h => by simp at h⟩
  | a :: as, xs, k, e => by
    unfold lend at e
    cases h1 : lendOne S k a with
    | none => simp [h1] at e
    | some x =>
      cases h2 : lend S (k + 1) as with
      | none => simp [h1, h2] at e
      | some ys =>
        simp only [h1, h2, Option.bind_some, Option.map_some, Option.some.injEq] at e
        subst e
        obtain ⟨l, g⟩ := lend_get h2
        refine ⟨by rw [List.length_cons, List.length_cons, l], fun j b hb => ?_⟩
        cases j with
        | zero =>
          simp only [List.getElem?_cons_zero, Option.some.injEq] at hb
          subst hb
          exact ⟨x, rfl, h1⟩
        | succ j =>
          simp only [List.getElem?_cons_succ] at hb
          obtain ⟨y, hy, e⟩ := g j b hb
          refine ⟨y, by simpa using hy, ?_⟩
          rw [show k + (j + 1) = k + 1 + j by omega]
          exact e
theorem giveS_get {args outs : List Sl} : ∀ {S S' : List Sl} {k : Nat}, giveS args outs k S = some S' → S'.length = S.length ∧ ∀ (i : Nat) (s : Sl), S[i]? = some s → ∃ s', S'[i]? = some s' ∧ giveAt args outs (k + i) s = some s'
  | [], _, _, e => by
    cases e
    exact ⟨rfl, fun j a h => by simp at h⟩
  | s :: S, S', k, e => by
    unfold giveS at e
    cases h1 : giveAt args outs k s with
    | none => simp [h1] at e
    | some x =>
      cases h2 : giveS args outs (k + 1) S with
      | none => simp [h1, h2] at e
      | some ys =>
        simp only [h1, h2, Option.bind_some, Option.map_some, Option.some.injEq] at e
        subst e
        obtain ⟨l, g⟩ := giveS_get h2
        refine ⟨by rw [List.length_cons, List.length_cons, l], fun j b hb => ?_⟩
        cases j with
        | zero =>
          simp only [List.getElem?_cons_zero, Option.some.injEq] at hb
          subst hb
          exact ⟨x, rfl, h1⟩
        | succ j =>
          simp only [List.getElem?_cons_succ] at hb
          obtain ⟨y, hy, e⟩ := g j b hb
          refine ⟨y, by simpa using hy, ?_⟩
          rw [show k + (j + 1) = k + 1 + j by omega]
          exact e
def tagOf : Sl → Option Nat
  | .ow t _ => some t
  | .ob t _ _ => some t
  | _ => none
/-- a def's promise by its mirror -/
def spD (Γ : Ct) (G : Gf) : Sp := fun vs H Q E => ∃ (S : List Sl) (F : Fr), F.H = H ∧ (∀ (j t : Nat) (s : Sl), S[j]? = some s → tagOf s = some t → t = j + 1) ∧ Rep Γ F [] S (vs.map some) H ∧
  Ok3 Γ F (fun c d _ H' => E c d H') [] (G S) fun a => ∀ v H', Rep Γ F [(a.1, some v)] a.2 (vs.map some) H' → Q v H'

/-- the values of the arguments -/
def ArgAt (Γ : Ct) (M : Hp) (σ : St) : Sl → V → Prop
  | .va d, v => At Γ M d v
  | .rf i, v => σ[i]? = some (some v)
  | _, _ => False
inductive ArgsAt (Γ : Ct) (M : Hp) (σ : St) : List Sl → List V → Prop
  | nil : ArgsAt Γ M σ [] []
  | cons {a : Sl} {v : V} {as : List Sl} {vs : List V} : ArgAt Γ M σ a v → ArgsAt Γ M σ as vs → ArgsAt Γ M σ (a :: as) (v :: vs)
section
variable {Γ : Ct} {F : Fr} {M M' H H' : Hp} {T : List (Sl × Option V)} {S S' args outs xs : List Sl} {σ σ' : St} {vs : List V}
theorem ArgsAt.len (h : ArgsAt Γ M σ args vs) : vs.length = args.length := by
  induction h with
  | nil => rfl
  | cons _ _ ih => rw [List.length_cons, List.length_cons, ih]
theorem ArgsAt.get (h : ArgsAt Γ M σ args vs) : ∀ {j : Nat} {v : V}, vs[j]? = some v → ∃ a, args[j]? = some a ∧ ArgAt Γ M σ a v := by
  induction h with
  | nil => intro j v e; simp at e
  | cons h1 _ ih =>
    intro j v e
    cases j with
    | zero =>
      simp only [List.getElem?_cons_zero, Option.some.injEq] at e
      subst e
      exact ⟨_, rfl, h1⟩
    | succ j =>
      simp only [List.getElem?_cons_succ] at e ⊢
      exact ih e
theorem ArgsAt.at (h : ArgsAt Γ M σ args vs) {j : Nat} {a : Sl} (e : args[j]? = some a) : ∃ v, vs[j]? = some v ∧ ArgAt Γ M σ a v := by
  have hj : j < vs.length := by rw [h.len]; exact (List.getElem?_eq_some_iff.mp e).1
  obtain ⟨b, hb, q⟩ := h.get (List.getElem?_eq_getElem hj)
  rw [e] at hb
  cases hb
  exact ⟨_, List.getElem?_eq_getElem hj, q⟩
theorem ArgsAt.ex (m : Same M M') (h : ArgsAt Γ M σ args vs) : ArgsAt Γ M' σ args vs := by
  induction h with
  | nil => exact .nil
  | cons h1 _ ih =>
    refine .cons ?_ ih
    rename_i a v _ _ _
    cases a with
    | va d => exact At.ex m h1
    | rf i => exact h1
    | _ => exact h1.elim
/-- the addresses that are lent -/
def lent (S args : List Sl) (vs : List V) : Nat → Option Addr := fun j => match args[j]?, vs[j]? with
  | some (.rf i), some (.ref a) => match S[i]? with
    | some (.ow _ _) => some a
    | some (.ob _ _ _) => some a
    | _ => none
  | _, _ => none
theorem lent_slot (h : ArgsAt Γ M σ args vs) {j : Nat} {a : Addr} (e : lent S args vs j = some a) : ∃ i s, args[j]? = some (.rf i) ∧ S[i]? = some s ∧ s.isOw = true ∧ σ[i]? = some (some (.ref a)) ∧ vs[j]? = some (.ref a) := by
  unfold lent at e
  cases h1 : args[j]? with
  | none => simp [h1] at e
  | some x =>
    obtain ⟨v, hv, q⟩ := h.at h1
    rw [h1, hv] at e
    cases x with
    | rf i =>
      cases v with
      | ref b =>
        dsimp only at e
        cases h2 : S[i]? with
        | none => simp [h2] at e
        | some s =>
          rw [h2] at e
          cases s with
          | ow t d =>
            cases e
            exact ⟨i, _, rfl, h2, rfl, q, hv⟩
          | ob t c l =>
            cases e
            exact ⟨i, _, rfl, h2, rfl, q, hv⟩
          | _ => cases e
      | _ => cases e
    | _ => cases e
/-- what the def sees at its entry -/
theorem RepM.lend (R : RepM Γ F M T S σ H) (h : ArgsAt Γ M σ args vs) (e : lend S 0 args = some xs) (o : once args = true) : RepM Γ ⟨H, M, lent S args vs⟩ M [] xs (vs.map some) H := by
  obtain ⟨le, g⟩ := lend_get e
  have o' := once_pw o
  have key : ∀ (j : Nat) (x : Sl) (w : Option V), xs[j]? = some x → (vs.map some)[j]? = some w → ∃ a v, w = some v ∧ args[j]? = some a ∧ vs[j]? = some v ∧ ArgAt Γ M σ a v ∧ lendOne S j a = some x := fun j x w h1 h2 => by
    rw [List.getElem?_map] at h2
    cases hv : vs[j]? with
    | none => simp [hv] at h2
    | some v =>
      rw [hv] at h2
      simp only [Option.map_some, Option.some.injEq] at h2
      subst h2
      obtain ⟨a, ha, q⟩ := h.get hv
      obtain ⟨x', hx', ex⟩ := g j a ha
      rw [h1] at hx'
      cases hx'
      exact ⟨a, v, rfl, ha, rfl, q, by simpa using ex⟩
  refine ⟨by rw [List.length_map, h.len, le], fun j x hx => ?_, R.sub, fun a o' h1 _ => h1, Same.refl M, fun a o' h1 => .inl h1, fun p hp => by simp at hp, fun j x w h1 h2 => ?_, List.Pairwise.nil, fun j k x y w ne h1 h2 o1 o2 h3 h4 => ?_, fun p hp => by simp at hp⟩
  · have hj : j < vs.length := by rw [h.len, ← le]; exact (List.getElem?_eq_some_iff.mp hx).1
    obtain ⟨a, v, _, _, _, _, ex⟩ := key j x (some vs[j]) hx (by rw [List.getElem?_map, List.getElem?_eq_getElem hj]; rfl)
    unfold lendOne at ex
    split at ex <;> try cases ex
    · rfl
    · split at ex <;> first | (cases ex; rfl) | cases ex
  · obtain ⟨a, v, rfl, ha, hv, q, ex⟩ := key j x w h1 h2
    cases a with
    | va d =>
      cases ex
      exact ⟨v, rfl, q⟩
    | rf i =>
      have q' : σ[i]? = some (some v) := q
      dsimp only [lendOne] at ex
      cases h3 : S[i]? with
      | none => simp [h3] at ex
      | some s =>
        rw [h3] at ex
        have z := R.allS i s _ h3 q'
        cases s with
        | ow t d =>
          cases ex
          obtain ⟨b, eb, n, ot, ln⟩ := z
          cases eb
          have hl : lent S args vs j = some b := by simp [lent, ha, hv, h3]
          exact ⟨b, rfl, n, ot, .inr ⟨j, hl⟩, fun i' e' => by cases e'; exact hl⟩
        | ob t c l =>
          cases ex
          obtain ⟨b, eb, n, ot, ln⟩ := z
          cases eb
          have hl : lent S args vs j = some b := by simp [lent, ha, hv, h3]
          exact ⟨b, rfl, n, ot, .inr ⟨j, hl⟩, fun i' e' => by cases e'; exact hl⟩
        | sc ns =>
          cases ex
          exact z
        | va d =>
          cases ex
          exact z
        | _ => cases ex
    | _ => exact q.elim
  · obtain ⟨a, v, rfl, ha, hv, q, ex⟩ := key j x w h1 h3
    obtain ⟨a', v', e', ha', hv', q', ex'⟩ := key k y _ h2 h4
    cases e'
    have own : ∀ {j : Nat} {a x : Sl}, lendOne S j a = some x → x.isOw = true → ∃ i s, a = .rf i ∧ S[i]? = some s ∧ s.isOw = true := fun {j a x} ex ox => by
      cases a with
      | va d =>
        cases ex
        cases ox
      | rf i =>
        dsimp only [lendOne] at ex
        cases h3 : S[i]? with
        | none => simp [h3] at ex
        | some s =>
          rw [h3] at ex
          cases s with
          | ow t d => exact ⟨i, _, rfl, h3, rfl⟩
          | ob t c l => exact ⟨i, _, rfl, h3, rfl⟩
          | sc ns =>
            cases ex
            cases ox
          | va d =>
            cases ex
            cases ox
          | _ => cases ex
      | _ => cases ex
    obtain ⟨i, s, rfl, hs, os⟩ := own ex o1
    obtain ⟨i', s', rfl, hs', os'⟩ := own ex' o2
    have q1 : σ[i]? = some (some v) := q
    have q2 : σ[i']? = some (some v) := q'
    have nei : i ≠ i' := by
      rcases Nat.lt_or_gt_of_ne ne with z | z
      · have hj := (List.getElem?_eq_some_iff.mp ha)
        have hk := (List.getElem?_eq_some_iff.mp ha')
        have := List.pairwise_iff_getElem.mp o' j k hj.1 hk.1 z
        rw [hj.2, hk.2] at this
        simpa [differ] using this
      · have hj := (List.getElem?_eq_some_iff.mp ha)
        have hk := (List.getElem?_eq_some_iff.mp ha')
        have := List.pairwise_iff_getElem.mp o' k j hk.1 hj.1 z
        rw [hj.2, hk.2] at this
        exact Ne.symm (by simpa [differ] using this)
    exact R.disS i i' s s' _ nei hs hs' os os' q1 q2
/-- behind the call -/
theorem RepM.back {r : Sl} {v : V} (R : RepM Γ F M T S σ H) (h : ArgsAt Γ M σ args vs) (R2 : RepM Γ ⟨H, M, lent S args vs⟩ M' [(r, some v)] outs (vs.map some) H') (e : giveS args outs 0 S = some S') (lo : outs.length = args.length) (hr : (∃ d, r = .va d) ∨ ∃ d, r = .ow 0 d) :
    RepM Γ F M' ((r, some v) :: T) S' σ H' := by
  obtain ⟨le, g⟩ := giveS_get e
  have low : ∀ {a : Addr} {j : Nat}, lent S args vs j = some a → M a = none ∧ (F.H a = none ∨ ∃ i, F.B i = some a) := fun {a j} hl => by
    obtain ⟨i, s, _, hs, os, hσ, _⟩ := lent_slot h hl
    have z := R.allS i s _ hs hσ
    cases s with
    | ow t d =>
      obtain ⟨b, eb, n, _, ln⟩ := z
      cases eb
      exact ⟨n, ln.1⟩
    | ob t c l =>
      obtain ⟨b, eb, n, _, ln⟩ := z
      cases eb
      exact ⟨n, ln.1⟩
    | _ => cases os
  have fresh : ∀ {a : Addr}, H a = none → F.H a = none ∨ ∃ i, F.B i = some a := fun {a} n => by
    cases q : F.H a with
    | none => exact .inl rfl
    | some u =>
      by_cases b : ∃ i, F.B i = some a
      · exact .inr b
      · have := R.frm a u q fun i hi => b ⟨i, hi⟩
        rw [n] at this
        cases this
  /- an owned address that is not lent stays -/
  have stay : ∀ {a : Addr} {o : HO}, M a = none → H a = some o → (∀ j, lent S args vs j ≠ some a) → M' a = none ∧ ∀ o, H a = some o → H' a = some o := fun {a o} n ha nl => by
    refine ⟨?_, fun o ho => R2.frm a o ho nl⟩
    cases q : M' a with
    | none => rfl
    | some u =>
      rcases R2.new a u q with z | z | ⟨j, z⟩
      · have z' : M a = some u := z
        rw [n] at z'
        cases z'
      · have z' : H a = none := z
        rw [ha] at z'
        cases z'
      · exact absurd z (nl j)
  have mm : Same M M' := R2.old
  have notL : ∀ {i : Nat} {s : Sl} {a : Addr}, S[i]? = some s → s.isOw = true → σ[i]? = some (some (.ref a)) → (∀ j : Nat, args[j]? ≠ some (Sl.rf i)) → ∀ j, lent S args vs j ≠ some a := fun {i s a} hs os hσ na j hl => by
    obtain ⟨i', s', ha', hs', os', hσ', _⟩ := lent_slot h hl
    by_cases e : i = i'
    · subst e
      exact na j ha'
    · exact R.disS i i' s s' _ e hs hs' os os' hσ hσ'
  have slotOf : ∀ (i : Nat) (s' : Sl) (w : Option V), S'[i]? = some s' → σ[i]? = some w → SlAt Γ F σ H' M' s' w ∧ s'.isRf = false ∧ (s'.isOw = true → ∃ s, S[i]? = some s ∧ s.isOw = true) := fun i s' w h1 h2 => by
    have hi : i < S.length := by rw [← le]; exact (List.getElem?_eq_some_iff.mp h1).1
    obtain ⟨s, hs⟩ : ∃ s, S[i]? = some s := ⟨_, List.getElem?_eq_getElem hi⟩
    obtain ⟨s2, hs2, ge⟩ := g i s hs
    rw [h1] at hs2
    cases hs2
    rw [Nat.zero_add] at ge
    have z := R.allS i s w hs h2
    have nr := R.nrf i s hs
    unfold giveAt at ge
    cases hf : (args.zip outs).find? (fun p => rfIs i p.1) with
    | none =>
      rw [hf] at ge
      cases ge
      refine ⟨z.mv mm fun a os hw n ⟨o, ho⟩ => stay n ho (notL hs os (by rw [h2, hw]) fun j hj => ?_), nr, fun os => ⟨_, hs, os⟩⟩
      have hjo : j < outs.length := by rw [lo]; exact (List.getElem?_eq_some_iff.mp hj).1
      have := List.find?_eq_none.mp hf (.rf i, outs[j]) (by
        refine List.mem_of_getElem? (i := j) ?_
        rw [List.getElem?_zip_eq_some]
        exact ⟨hj, List.getElem?_eq_getElem hjo⟩)
      simp [rfIs] at this
    | some q =>
      rw [hf] at ge
      have hq := List.find?_some hf
      have hm := List.mem_of_find?_eq_some hf
      obtain ⟨j, hj, ej⟩ := List.getElem_of_mem hm
      have ej' : (args.zip outs)[j]? = some q := by rw [List.getElem?_eq_getElem hj, ej]
      obtain ⟨q1, q2⟩ := q
      rw [List.getElem?_zip_eq_some] at ej'
      cases q1 with
      | rf k =>
        have ek : k = i := by simpa [rfIs] using hq
        subst ek
        obtain ⟨v', hv', qa⟩ := h.at ej'.1
        have qa' : σ[k]? = some (some v') := qa
        rw [h2] at qa'
        cases qa'
        have y := R2.allS j q2 (some v') ej'.2 (by rw [List.getElem?_map, hv']; rfl)
        dsimp only at ge
        cases s with
        | ow t d =>
          cases q2 with
          | ow t2 d2 =>
            cases ge
            obtain ⟨b, eb, _, _, ln⟩ := z
            obtain ⟨b2, eb2, n2, ot2, _⟩ := y
            cases eb
            cases eb2
            exact ⟨⟨b, rfl, n2, ot2, ln⟩, rfl, fun _ => ⟨_, hs, rfl⟩⟩
          | _ => cases ge
        | ob t c l =>
          cases q2 with
          | ob t2 c2 l2 =>
            dsimp only [merge] at ge
            split at ge
            · rename_i ec
              cases ge
              subst ec
              obtain ⟨b, eb, _, _, ln⟩ := z
              obtain ⟨b2, eb2, n2, ot2, _⟩ := y
              cases eb
              cases eb2
              exact ⟨⟨b, rfl, n2, ot2, ln⟩, rfl, fun _ => ⟨_, hs, rfl⟩⟩
            · cases ge
          | _ => cases ge
        | sc ns =>
          have : s' = .sc ns := by cases q2 <;> (cases ge; rfl)
          subst this
          obtain ⟨b, eb, sq⟩ := z
          exact ⟨⟨b, eb, mm.seq sq⟩, rfl, fun o => nomatch o⟩
        | va d =>
          have : s' = .va d := by cases q2 <;> (cases ge; rfl)
          subst this
          obtain ⟨x, ex, hx⟩ := z
          exact ⟨⟨x, ex, hx.ex mm⟩, rfl, fun o => nomatch o⟩
        | no => cases q2 <;> cases ge
        | hd o => cases q2 <;> cases ge
        | rf k' => cases nr
      | _ => cases hq
  have resOwn : r.isOw = true → ∃ a, v = .ref a ∧ H a = none := fun os => by
    rcases hr with ⟨d, rfl⟩ | ⟨d, rfl⟩
    · cases os
    · obtain ⟨a, ea, n, ot, ln⟩ := R2.allT _ List.mem_cons_self
      cases ea
      refine ⟨a, rfl, ?_⟩
      rcases ln.1 with z | ⟨j, z⟩
      · exact z
      · exfalso
        obtain ⟨i, s, haj, hs, os', hσ, hv⟩ := lent_slot h z
        have hjo : j < outs.length := by rw [lo]; exact (List.getElem?_eq_some_iff.mp haj).1
        have hi : i < S.length := (List.getElem?_eq_some_iff.mp hs).1
        obtain ⟨s2, hs2, ge⟩ := g i s hs
        rw [Nat.zero_add] at ge
        unfold giveAt at ge
        cases hf : (args.zip outs).find? (fun p => rfIs i p.1) with
        | none =>
          have := List.find?_eq_none.mp hf (.rf i, outs[j]) (by
            refine List.mem_of_getElem? (i := j) ?_
            rw [List.getElem?_zip_eq_some]
            exact ⟨haj, List.getElem?_eq_getElem hjo⟩)
          simp [rfIs] at this
        | some q =>
          rw [hf] at ge
          have hq := List.find?_some hf
          have hm := List.mem_of_find?_eq_some hf
          obtain ⟨j', hj', ej⟩ := List.getElem_of_mem hm
          have ej' : (args.zip outs)[j']? = some q := by rw [List.getElem?_eq_getElem hj', ej]
          obtain ⟨q1, q2⟩ := q
          rw [List.getElem?_zip_eq_some] at ej'
          cases q1 with
          | rf k =>
            have ek : k = i := by simpa [rfIs] using hq
            subst ek
            obtain ⟨v', hv', qa⟩ := h.at ej'.1
            have qa' : σ[k]? = some (some v') := qa
            rw [hσ] at qa'
            cases qa'
            have o2 : q2.isOw = true := by
              dsimp only at ge
              cases s with
              | ow t d => cases q2 <;> first | rfl | cases ge
              | ob t c l => cases q2 <;> first | rfl | cases ge
              | _ => cases os'
            exact R2.disX _ List.mem_cons_self rfl j' q2 ej'.2 o2 (by rw [List.getElem?_map, hv']; rfl)
          | _ => cases hq
  have Tstay : ∀ p ∈ T, SlAt Γ F σ H' M' p.1 p.2 := fun p hp => (R.allT p hp).mv mm fun a os hw n ⟨o, ho⟩ => stay n ho fun j hl => by
    obtain ⟨i, s, _, hs, os', hσ, _⟩ := lent_slot h hl
    exact R.disX p hp os i s hs os' (by rw [hσ, hw])
  refine ⟨by rw [le]; exact R.len, fun i s' hs' => ?_, R2.sub, fun a o ha nb => ?_, R.old.trans mm, fun a o ha => ?_, fun p hp => ?_, fun i s' w h1 h2 => (slotOf i s' w h1 h2).1, List.pairwise_cons.mpr ⟨fun q hq o1 o2 eq => ?_, R.disT⟩, fun i j s s' w ne h1 h2 o1 o2 h3 h4 => ?_, fun p hp os i s' h1 o1 h2 => ?_⟩
  · have hi : i < σ.length := by rw [← R.len, ← le]; exact (List.getElem?_eq_some_iff.mp hs').1
    exact (slotOf i s' _ hs' (List.getElem?_eq_getElem hi)).2.1
  · refine R2.frm a o (R.frm a o ha nb) fun j hl => ?_
    rcases (low hl).2 with z | ⟨i, z⟩
    · rw [ha] at z
      cases z
    · exact nb i z
  · rcases R2.new a o ha with z | z | ⟨j, z⟩
    · exact R.new a o z
    · exact .inr (fresh z)
    · exact .inr (low z).2
  · rcases List.mem_cons.mp hp with rfl | hp
    · rcases hr with ⟨d, rfl⟩ | ⟨d, rfl⟩
      · exact R2.allT _ List.mem_cons_self
      · obtain ⟨a, ea, n, ot, ln⟩ := R2.allT _ List.mem_cons_self
        cases ea
        obtain ⟨a', ea', na⟩ := resOwn rfl
        cases ea'
        exact ⟨a, rfl, n, ot, fresh na, fun i z => nomatch z⟩
    · exact Tstay p hp
  · obtain ⟨a, rfl, na⟩ := resOwn o1
    obtain ⟨b, eb, _, u, hb⟩ := (R.allT q hq).owned o2
    rw [← eq] at eb
    cases eb
    rw [na] at hb
    cases hb
  · obtain ⟨t1, ht1, ot1⟩ := (slotOf i s w h1 h3).2.2 o1
    obtain ⟨t2, ht2, ot2⟩ := (slotOf j s' w h2 h4).2.2 o2
    exact R.disS i j t1 t2 w ne ht1 ht2 ot1 ot2 h3 h4
  · obtain ⟨t1, ht1, ot1⟩ := (slotOf i s' _ h1 h2).2.2 o1
    rcases List.mem_cons.mp hp with rfl | hp
    · obtain ⟨a, rfl, na⟩ := resOwn os
      obtain ⟨b, eb, _, u, hb⟩ := (R.allS i t1 _ ht1 h2).owned ot1
      cases eb
      rw [na] at hb
      cases hb
    · exact R.disX p hp os i t1 ht1 ot1 h2
end
end Mi

/-! The mirror layer: calls of defs and methods, fields, new instances. -/
namespace Mi
open PySem L2
open PyProof.Rows hiding St

theorem FnOk.cx {P : Program} {w : World} {K : PySem.W.Frag} {mg : Str → Option Value} {base : Heap} {k : Nat} {f : Addr} {fd : FuncData} {ps : List Str} {sp : Sp} (F : FnOk P w K mg base CX0 k f fd ps sp) : FnOk P w K mg base (L2.CX P w) k f fd ps sp :=
  ⟨F.len, fun A outer s H args us vs Q E hr he hb hv hs => codeAny_mono (F.run A outer s H args us vs Q E hr he hb hv hs) fun r s' h => by
    cases r with
    | error e => exact h.elim
    | ok fl => cases fl <;> exact h⟩
/-- a wish that is never asked -/
theorem takesF {X : Cx} : Takes X (fun _ _ _ _ => False) := fun u s' ⟨_, _, _, _, _, _, _, _, _, _, _, _, _, _, _, _, h⟩ => h.elim
theorem passesF {X : Cx} {P : Program} {w : World} : Passes (L2.CX P w) X (fun _ _ _ => False) := fun _ _ _ _ _ _ _ ⟨_, _, _, _, _, _, _, _, _, _, _, _, h⟩ => h.elim

section
variable {Γ : Ct} {F : Fr} {M M' H H' : Hp} {T : List (Sl × Option V)} {S S' args outs xs : List Sl} {σ σ' : St} {vs : List V}
theorem RepM.fresh (R : RepM Γ F M T S σ H) {a : Addr} (n : H a = none) : F.H a = none ∨ ∃ i, F.B i = some a := by
  cases q : F.H a with
  | none => exact .inl rfl
  | some u =>
    by_cases b : ∃ i, F.B i = some a
    · exact .inr b
    · have := R.frm a u q fun i hi => b ⟨i, hi⟩
      rw [n] at this
      cases this
theorem ErrAt.up {c : Nat} {d : Option D} {x : Option Addr} (R : RepM Γ F M T S σ H) (h : ArgsAt Γ M σ args vs) (e : ErrAt Γ ⟨H, M, lent S args vs⟩ c d x H') : ErrAt Γ F c d x H' := by
  obtain ⟨M', s, frm, old, new, q⟩ := e
  have low : ∀ {a : Addr} {j : Nat}, lent S args vs j = some a → F.H a = none ∨ ∃ i, F.B i = some a := fun {a j} hl => by
    obtain ⟨i, s, _, hs, os, hσ, _⟩ := lent_slot h hl
    have z := R.allS i s _ hs hσ
    cases s with
    | ow t d =>
      obtain ⟨b, eb, n, _, ln⟩ := z
      cases eb
      exact ln.1
    | ob t c l =>
      obtain ⟨b, eb, n, _, ln⟩ := z
      cases eb
      exact ln.1
    | _ => cases os
  have up : ∀ {a : Addr}, (H a = none ∨ ∃ i, lent S args vs i = some a) → F.H a = none ∨ ∃ i, F.B i = some a := fun {a} z => by
    rcases z with z | ⟨j, z⟩
    · exact R.fresh z
    · exact low z
  refine ⟨M', s, fun a o ha nb => frm a o (R.frm a o ha nb) fun j hl => ?_, R.old.trans old, fun a o ha => ?_, ?_⟩
  · rcases low hl with z | ⟨i, z⟩
    · rw [ha] at z
      cases z
    · exact nb i z
  · rcases new a o ha with z | z | z
    · exact R.new a o z
    · exact .inr (up (.inl z))
    · exact .inr (up (.inr z))
  · cases h1 : Γ.erf c with
    | none =>
      rw [h1] at q
      cases d with
      | none => exact q
      | some e => exact q.elim
    | some f =>
      rw [h1] at q
      cases d with
      | none => exact q.elim
      | some e =>
        obtain ⟨p, v, hx, hp, h2, h3, h4⟩ := q
        exact ⟨p, v, hx, up hp, h2, h3, h4⟩
end

/-! ### arguments: values, and slots that are lent -/
abbrev Mf := List Sl → Rs (List Sl × List Sl)
def tM (Γ : Ct) (F : Fr) (W : WX) (g : Mf) : TA := fun σ H Q => ∃ T S, Rep Γ F T S σ H ∧ Ok3 Γ F W σ (g S) fun a => ∀ vs H' M, RepM Γ F M T a.2 σ H' → ArgsAt Γ M σ a.1 vs → Q vs H'
def DM (X : Cx) (Γ : Ct) (F : Fr) (W : WX) (es : List Expr) (g : Mf) : Prop := PA X es (tM Γ F W g)
def mNil : Mf := fun S => .ok ([], S)
def mCons (f : Ef) (g : Mf) : Mf := fun S => (f S).bind fun a => (lift (fz a.2 a.1)).bind fun b => (g b.2).bind fun c => .ok (.va b.1 :: c.1, c.2)
def mLend (i : Nat) (g : Mf) : Mf := fun S => match S[i]? with
  | some .no => .no
  | some (.rf _) => .no
  | some (.hd _) => .no
  | none => .no
  | _ => (g S).bind fun c => .ok (.rf i :: c.1, c.2)
section
variable {X : Cx} {Γ : Ct} {F : Fr} {W : WX} {e : Expr} {es : List Expr} {fa : Ef} {g : Mf}
theorem dm_nil : DM X Γ F W [] mNil := PA.mono pa_nil fun σ H Q ⟨T, S, ⟨M, r⟩, k⟩ => k [] H M r .nil
theorem tM_cons : ∀ σ H Q, tM Γ F W (mCons fa g) σ H Q → tCons (tE Γ F W fa) (tM Γ F W g) σ H Q := by
  rintro σ H Q ⟨T, S, rep, h⟩
  refine ⟨T, S, rep, h.bind.mono fun a h1 x H1 ⟨M, r1⟩ => ?_⟩
  obtain ⟨z, hz, k⟩ := h1.bind.lift
  obtain ⟨M', hx, _, r2⟩ := r1.fz hz
  refine ⟨_, _, ⟨M', r2⟩, k.bind.mono fun c h2 vs H' M2 r3 hs => ?_⟩
  obtain ⟨x', ex, hx'⟩ := r3.allT _ List.mem_cons_self
  cases ex
  exact h2 (x :: vs) H' M2 r3.drop (.cons hx' hs)
theorem dm_cons (ha : DE X Γ F W e fa) (hr : DM X Γ F W es g) (hs : starEach (e :: es) X.env = (false, eval e X.env) :: starEach es X.env := by rfl) : DM X Γ F W (e :: es) (mCons fa g) := PA.mono (pa_cons ha hr hs) tM_cons
theorem tM_lend {i : Nat} : ∀ σ H Q, tM Γ F W (mLend i g) σ H Q → tCons (tVar i) (tM Γ F W g) σ H Q := by
  rintro σ H Q ⟨T, S, ⟨M, r⟩, h⟩
  have main : ∀ s, S[i]? = some s → s ≠ .no → s.isRf = false → (∀ o, s ≠ .hd o) → Ok3 Γ F W σ ((g S).bind fun c => .ok (.rf i :: c.1, c.2)) (fun a => ∀ vs H' M, RepM Γ F M T a.2 σ H' → ArgsAt Γ M σ a.1 vs → Q vs H') → tCons (tVar i) (tM Γ F W g) σ H Q := fun s hs ns nr nh k => by
    have hi : i < S.length := (List.getElem?_eq_some_iff.mp hs).1
    obtain ⟨v, hv⟩ : ∃ v, σ[i]? = some v := ⟨_, List.getElem?_eq_getElem (by rw [← r.len]; exact hi)⟩
    have q := r.allS i s v hs hv
    obtain ⟨x, rfl⟩ : ∃ x, v = some x := by
      cases s with
      | no => exact absurd rfl ns
      | hd o => exact absurd rfl (nh o)
      | rf j => cases nr
      | va d =>
        obtain ⟨x, e, _⟩ := q
        exact ⟨x, e⟩
      | ow t d =>
        obtain ⟨x, e, _⟩ := q
        exact ⟨_, e⟩
      | ob t c l =>
        obtain ⟨x, e, _⟩ := q
        exact ⟨_, e⟩
      | sc ns =>
        obtain ⟨x, e, _⟩ := q
        exact ⟨_, e⟩
    exact ⟨x, hv, T, S, ⟨M, r⟩, k.bind.mono fun c h2 vs H' M2 r3 hs => h2 (x :: vs) H' M2 r3 (.cons hv hs)⟩
  unfold mLend at h
  cases hs : S[i]? with
  | none =>
    rw [hs] at h
    exact h.elim
  | some s =>
    rw [hs] at h
    cases s with
    | no => exact h.elim
    | rf j => exact h.elim
    | hd o => exact h.elim
    | va d => exact main _ hs (fun z => nomatch z) rfl (fun _ z => nomatch z) h
    | ow t d => exact main _ hs (fun z => nomatch z) rfl (fun _ z => nomatch z) h
    | ob t c l => exact main _ hs (fun z => nomatch z) rfl (fun _ z => nomatch z) h
    | sc ns => exact main _ hs (fun z => nomatch z) rfl (fun _ z => nomatch z) h
theorem dm_lend {i : Nat} (ha : PE X e (tVar i)) (hr : DM X Γ F W es g) (hs : starEach (e :: es) X.env = (false, eval e X.env) :: starEach es X.env := by rfl) : DM X Γ F W (e :: es) (mLend i g) := PA.mono (pa_cons ha hr hs) tM_lend

/-! ### the call -/
def fin1 (S' : List Sl) : Sl → Rs (Sl × List Sl)
  | .va d => .ok (.va d, S')
  | .ow 0 d => .ok (.ow 0 d, S')
  | _ => .no
def callG (G : Gf) (args S : List Sl) : Rs (Sl × List Sl) := if once args = true then (lift (lend S 0 args)).bind fun xs => (G xs).bind fun b => if b.2.length = args.length then (lift (giveS args b.2 0 S)).bind fun S' => fin1 S' b.1 else .no else .no
def fCall (G : Gf) (ds : List D) (g : Mf) : Ef := fun S => (g S).bind fun a => callG G (a.1 ++ ds.map .va) a.2
theorem Ok3.up {α : Type} {F' : Fr} {E : XK} {σ σ' : St} {r : Rs α} {k : α → Prop} (h : Ok3 Γ F W σ r k) (u : ∀ c d x H', ErrAt Γ F' c d x H' → ErrAt Γ F c d x H') (w : ∀ c d H', W c d σ H' → E c d H') : Ok3 Γ F' (fun c d _ H' => E c d H') σ' r k := by
  cases r with
  | ok a => exact h
  | er c d => exact fun x H' e => w _ _ _ (h x H' (u c d x H' e))
  | no => exact h
theorem lend_tag {S args xs : List Sl} (e : lend S 0 args = some xs) (j t : Nat) (s : Sl) (h : xs[j]? = some s) (m : tagOf s = some t) : t = j + 1 := by
  obtain ⟨le, g⟩ := lend_get e
  have hj : j < args.length := by rw [← le]; exact (List.getElem?_eq_some_iff.mp h).1
  obtain ⟨x, hx, ex⟩ := g j _ (List.getElem?_eq_getElem hj)
  rw [h] at hx
  cases hx
  rw [Nat.zero_add] at ex
  unfold lendOne at ex
  split at ex <;> try cases ex
  · cases m
  · split at ex <;> first | (cases ex; cases m; rfl; done) | (cases ex; cases m; done) | (cases ex; done)
theorem callG_ok {G : Gf} {T : List (Sl × Option V)} {S args : List Sl} {σ : St} {H M : Hp} {vs : List V} {Q : VK} (R : RepM Γ F M T S σ H) (ha : ArgsAt Γ M σ args vs) (h : Ok3 Γ F W σ (callG G args S) fun a => ∀ v H', Rep Γ F ((a.1, some v) :: T) a.2 σ H' → Q v H') :
    spD Γ G vs H Q (WE W σ) := by
  unfold callG at h
  split at h
  · rename_i ho
    obtain ⟨xs, hx, k⟩ := h.bind.lift
    refine ⟨xs, ⟨H, M, lent S args vs⟩, rfl, fun j t s h1 h2 => lend_tag hx j t s h1 h2, ⟨M, R.lend ha hx ho⟩, ?_⟩
    refine (Ok3.up (σ' := []) (E := WE W σ) k.bind (fun c d x H' e => e.up R ha) fun c d H' z => z).mono fun b hb v H' ⟨M', R2⟩ => ?_
    split at hb
    · rename_i hl
      obtain ⟨S', hS, k2⟩ := hb.bind.lift
      cases hr : b.1 with
      | va d =>
        rw [hr] at k2 R2
        exact k2 v H' ⟨M', R.back ha R2 hS hl (.inl ⟨d, rfl⟩)⟩
      | ow t d =>
        cases t with
        | zero =>
          rw [hr] at k2 R2
          exact k2 v H' ⟨M', R.back ha R2 hS hl (.inr ⟨d, rfl⟩)⟩
        | succ t =>
          rw [hr] at k2
          exact k2.elim
      | no =>
        rw [hr] at k2
        exact k2.elim
      | ob t c l =>
        rw [hr] at k2
        exact k2.elim
      | sc ns =>
        rw [hr] at k2
        exact k2.elim
      | rf i =>
        rw [hr] at k2
        exact k2.elim
      | hd o =>
        rw [hr] at k2
        exact k2.elim
    · exact hb.elim
  · exact h.elim
theorem ArgsAt.vals {M : Hp} {σ : St} : ∀ {ds : List D} {vs : List V}, Ats Γ M ds vs → ArgsAt Γ M σ (ds.map .va) vs
  | [], _, h => by
    obtain rfl := h
    exact .nil
  | d :: ds, _, h => by
    obtain ⟨x, r, rfl, h1, h2⟩ := h
    exact .cons h1 (ArgsAt.vals h2)
theorem ArgsAt.append {M : Hp} {σ : St} {as bs : List Sl} {vs ws : List V} (h : ArgsAt Γ M σ as vs) (h' : ArgsAt Γ M σ bs ws) : ArgsAt Γ M σ (as ++ bs) (vs ++ ws) := by
  induction h with
  | nil => exact h'
  | cons h1 _ ih => exact .cons h1 ih
/-- a def by its name, with its mirror; dvs: the defaults that fill up -/
structure DefD (X : Cx) (Γ : Ct) (k : Nat) (x : Str) (ps : List Str) (G : Gf) : Prop where
  ex : ∃ (f : Addr) (fd : FuncData), FnOk X.prog X.w X.K X.mg X.base (L2.CX X.prog X.w) k f fd ps (spD Γ G) ∧ X.mg x = some (.ref f) ∧ PySem.W.keepIn X.K (.ref f) = true ∧ Binds X.K fd ps []
variable {p pos apos : Pos} {x m : Str} {k : Nat} {ps : List Str} {G : Gf}
theorem de_call (D1 : DefD X Γ k x ps G) (hr : Room k X.A) (tk : Takes X W) (ha : DM X Γ F W (e :: es) g) (hg : Gl X x := by rfl) (hdb : (x == ("__debug__" : Str)) = false := by decide)
    (he : starEach (e :: es) X.env = (false, eval e X.env) :: starEach es X.env := by rfl) (hpl : (backTo pos (starEach es X.env)).any (·.1) = false := by rfl) : DE X Γ F W (.Call (.Name x p) (e :: es) [] pos) (fCall G [] g) := by
  obtain ⟨f, fd, F1, hm, hk, hb⟩ := D1.ex
  refine PE.mono (pe_callSD (dvs := []) F1 hr hg hm hk hb .nil (fun σ => passAt tk σ) ha hdb he hpl) fun σ H Q ⟨T, S, rep, h⟩ => ⟨T, S, rep, h.bind.mono fun a h1 vs H1 M r hs => ?_⟩
  show spD Γ G (vs ++ []) H1 Q (WE W σ)
  rw [List.append_nil]
  have h1' : Ok3 Γ F W σ (callG G a.1 a.2) fun a => ∀ v H', Rep Γ F ((a.1, some v) :: T) a.2 σ H' → Q v H' := by simpa using h1
  exact callG_ok r hs h1'
theorem de_call0 (D1 : DefD X Γ k x ps G) (hr : Room k X.A) (tk : Takes X W) (hg : Gl X x := by rfl) (hdb : (x == ("__debug__" : Str)) = false := by decide) : DE X Γ F W (.Call (.Name x p) [] [] pos) (fCall G [] mNil) := by
  obtain ⟨f, fd, F1, hm, hk, hb⟩ := D1.ex
  refine ⟨fun pins s σ H Q I ⟨T, S, ⟨M, r⟩, h⟩ => ?_⟩
  refine wpAny_Call_Name_kw (ld_glob I hg hm ?_ hdb)
  exact PySem.W.callWith_K0 I.kIn hk (run_fnSD (E := fun σ => WE W σ) (dvs := []) (us := []) (vs := []) F1 hr hb .nil (passAt tk σ) I .nil (callG_ok r .nil h))

/-! ### methods of own classes -/
/-- what the written part says of the class number c -/
structure ClsF (Γ : Ct) (K : PySem.W.Frag) (c : Nat) : Prop where
  cl : Cls K (Γ.cls c)
  na : ∀ f ∈ Γ.fld c, NoAttr K (Γ.cls c) f
  nd : (Γ.fld c).Nodup
  le : (Γ.fld c).length < 1000
theorem lookup_none {fs : List (Str × V)} {m : Str} (h : m ∉ fs.map (·.1)) : fs.lookup m = none := by
  induction fs with
  | nil => rfl
  | cons q fs ih =>
    obtain ⟨a, v⟩ := q
    rw [List.map_cons, List.mem_cons, not_or] at h
    rw [List.lookup_cons]
    have : (m == a) = false := by simpa using h.1
    rw [this]
    exact ih h.2
theorem lookup_at {fs : List (Str × V)} {ns : List Str} {m : Str} {j : Nat} {v : V} (h : fs.map (·.1) = ns) (nd : ns.Nodup) (hm : ns[j]? = some m) (hv : (fs.map (·.2))[j]? = some v) : fs.lookup m = some v := by
  subst h
  induction fs generalizing j with
  | nil => simp at hm
  | cons q fs ih =>
    obtain ⟨a, w⟩ := q
    rw [List.map_cons] at hm hv nd
    rw [List.lookup_cons]
    have nd' := List.nodup_cons.mp nd
    cases j with
    | zero =>
      simp only [List.getElem?_cons_zero, Option.some.injEq] at hm hv
      subst hm
      subst hv
      simp
    | succ j =>
      simp only [List.getElem?_cons_succ] at hm hv
      have hne : (m == a) = false := by
        have : m ≠ a := fun z => nd'.1 (z ▸ List.mem_of_getElem? hm)
        simpa using this
      rw [hne]
      exact ih (j := j) hv nd'.2 hm
/-- a method of the class number c, with its mirror -/
structure MethD (X : Cx) (Γ : Ct) (c : Nat) (k : Nat) (m : Str) (ps : List Str) (G : Gf) : Prop where
  ex : ∃ (f : Addr) (fd : FuncData), FnOk X.prog X.w X.K X.mg X.base (L2.CX X.prog X.w) k f fd ps (spD Γ G) ∧ Meth X.K (Γ.cls c) m f ∧ Binds X.K fd ps []
  cf : ClsF Γ X.K c
  nf : m ∉ Γ.fld c
def isObj (c : Nat) : D → Bool
  | .obj c' _ => c' == c
  | _ => false
/-- o.m(e, ..), o a datum -/
def fMeth (c : Nat) (G : Gf) (fo : Ef) (g : Mf) : Ef := fun S => (fo S).bind fun a => (lift (fz a.2 a.1)).bind fun b => if isObj c b.1 = true then (g b.2).bind fun z => callG G (.va b.1 :: z.1) z.2 else .no
/-- slot i holds an instance that this def alone holds -/
def isObS (c : Nat) : Sl → Bool
  | .ob _ c' _ => c' == c
  | .ow _ (.obj c' _) => c' == c
  | _ => false
def fMethL (c i : Nat) (G : Gf) (g : Mf) : Ef := fun S => (lift S[i]?).bind fun s => if isObS c s = true then (g S).bind fun z => (lift z.2[i]?).bind fun s' => if isObS c s' = true then callG G (.rf i :: z.1) z.2 else .no else .no
theorem isObj_at {c : Nat} {d : D} {v : V} {M H : Hp} (h : At Γ M d v) (o : isObj c d = true) (s : Same M H) : ∃ a dx fs, v = .ref a ∧ H a = some (.ins (Γ.cls c) dx fs) ∧ fs.map (·.1) = Γ.fld c := by
  cases d with
  | obj c' l =>
    have e : c' = c := by simpa [isObj] using o
    subst e
    obtain ⟨a, dx, fs, rfl, ha, hf, _⟩ := h
    exact ⟨a, dx, fs, rfl, s _ _ ha, hf⟩
  | _ => cases o
variable {o : Expr} {fo : Ef} {c : Nat}
theorem de_meth {pl : Sem Bool} (D1 : MethD X Γ c k m ps G) (hr : Room k X.A) (tk : Takes X W) (ho : DE X Γ F W o fo) (ha : DM X Γ F W (e :: es) g)
    (hst : starEach (e :: es) X.env = (false, eval e X.env) :: starEach es X.env := by rfl) (hpl : (backTo pos (starEach es X.env)).any (·.1) = false := by rfl)
    (ht : eval (.Call (.Attribute o m apos) (e :: es) [] pos) X.env = (do
      let ov ← eval o X.env
      standAt apos.atName
      let (f, first) ← holding [ov] (getMethod ov m pl)
      callWith pos f first (backTo pos (starEach (e :: es) X.env)) (backToKw pos (keywordEach [] X.env))) := by rfl) : DE X Γ F W (.Call (.Attribute o m apos) (e :: es) [] pos) (fMeth c G fo g) := by
  obtain ⟨f, fd, F1, hm, hb⟩ := D1.ex
  refine PE.mono (Fu.pe_methS (pl := pl) (dvs := []) ho D1.cf.cl hm F1 hr hb .nil (fun σ => passAt tk σ) ha hst hpl ht) fun σ H Q ⟨T, S, rep, h⟩ => ⟨T, S, rep, h.bind.mono fun a h1 x H1 ⟨M, r1⟩ => ?_⟩
  obtain ⟨b, hz, k1⟩ := h1.bind.lift
  obtain ⟨M', hx, _, r2⟩ := r1.fz hz
  split at k1
  · rename_i io
    obtain ⟨p, dx, fs, rfl, hp, hf⟩ := isObj_at hx io r2.sub
    refine ⟨p, dx, fs, rfl, hp, lookup_none (by rw [hf]; exact D1.nf), _, _, ⟨M', r2⟩, k1.bind.mono fun z h2 vs H2 M2 r3 hs => ?_⟩
    obtain ⟨x', ex, hx'⟩ := r3.allT _ List.mem_cons_self
    cases ex
    show spD Γ G (.ref p :: (vs ++ [])) H2 Q (WE W σ)
    rw [List.append_nil]
    exact callG_ok r3.drop (.cons (a := .va b.1) hx' hs) h2
  · exact k1.elim
theorem de_meth0 {pl : Sem Bool} (D1 : MethD X Γ c k m ps G) (hr : Room k X.A) (tk : Takes X W) (ho : DE X Γ F W o fo)
    (ht : eval (.Call (.Attribute o m apos) [] [] pos) X.env = (do
      let ov ← eval o X.env
      standAt apos.atName
      let (f, first) ← holding [ov] (getMethod ov m pl)
      callWith pos f first (backTo pos (starEach [] X.env)) (backToKw pos (keywordEach [] X.env))) := by rfl) : DE X Γ F W (.Call (.Attribute o m apos) [] [] pos) (fMeth c G fo mNil) := by
  obtain ⟨f, fd, F1, hm, hb⟩ := D1.ex
  refine ⟨fun pins s σ H Q I ⟨T, S, rep, h⟩ => ?_⟩
  refine PySem.W.methodCall_KW (pl := pl) (thn (ho.run pins s σ H (fun x H1 => ∃ a dx fs, x = .ref a ∧ H1 a = some (.ins (Γ.cls c) dx fs) ∧ fs.lookup m = none ∧ spD Γ G [x] H1 Q (WE W σ)) I ⟨T, S, rep, h.bind.mono fun a h1 x H1 ⟨M, r1⟩ => ?_⟩) fun u s1 ⟨x, H1, I1, rx, a, dx, fs, ex, ea, l, q⟩ => ?_) ht
  · obtain ⟨b, hz, k1⟩ := h1.bind.lift
    obtain ⟨M', hx, _, r2⟩ := r1.fz hz
    split at k1
    · rename_i io
      obtain ⟨p, dx, fs, rfl, hp, hf⟩ := isObj_at hx io r2.sub
      exact ⟨p, dx, fs, rfl, hp, lookup_none (by rw [hf]; exact D1.nf), callG_ok r2.drop (.cons (a := .va b.1) hx .nil) k1⟩
    · exact k1.elim
  · subst ex
    obtain rfl : u = Value.ref a := rx
    refine getmeth_ok I1 ea D1.cf.cl hm l ?_
    exact PySem.W.callWith_K0 (first := [.ref a]) I1.kIn hm.kp (run_fnSD (E := fun σ => WE W σ) (dvs := []) (us := [.ref a]) (vs := [.ref a]) F1 hr hb .nil (passAt tk σ) I1 (.cons rfl .nil) q)
theorem isObS_at {c : Nat} {s : Sl} {v : Option V} {M H : Hp} {σ : St} (h : SlAt Γ F σ H M s v) (o : isObS c s = true) : ∃ a dx fs, v = some (.ref a) ∧ H a = some (.ins (Γ.cls c) dx fs) ∧ ∃ n, fs.map (·.1) = (Γ.fld c).take n := by
  cases s with
  | ob t c' l =>
    have e : c' = c := by simpa [isObS] using o
    subst e
    obtain ⟨a, rfl, _, ⟨dx, fs, ha, hf, _⟩, _⟩ := h
    exact ⟨a, dx, fs, rfl, ha, _, hf⟩
  | ow t d =>
    cases d with
    | obj c' l =>
      have e : c' = c := by simpa [isObS] using o
      subst e
      obtain ⟨a, rfl, _, ⟨dx, fs, ha, hf, _⟩, _⟩ := h
      exact ⟨a, dx, fs, rfl, ha, _, by rw [List.take_length]; exact hf⟩
    | _ => cases o
  | _ => cases o
/-- self.m(e, ..), self lent to this def or made by it -/
theorem de_methL {pl : Sem Bool} {i : Nat} (D1 : MethD X Γ c k m ps G) (hr : Room k X.A) (tk : Takes X W) (ho : PE X o (tVar i)) (ha : DM X Γ F W (e :: es) g)
    (hst : starEach (e :: es) X.env = (false, eval e X.env) :: starEach es X.env := by rfl) (hpl : (backTo pos (starEach es X.env)).any (·.1) = false := by rfl)
    (ht : eval (.Call (.Attribute o m apos) (e :: es) [] pos) X.env = (do
      let ov ← eval o X.env
      standAt apos.atName
      let (f, first) ← holding [ov] (getMethod ov m pl)
      callWith pos f first (backTo pos (starEach (e :: es) X.env)) (backToKw pos (keywordEach [] X.env))) := by rfl) : DE X Γ F W (.Call (.Attribute o m apos) (e :: es) [] pos) (fMethL c i G g) := by
  obtain ⟨f, fd, F1, hm, hb⟩ := D1.ex
  refine PE.mono (Fu.pe_methS (pl := pl) (dvs := []) ho D1.cf.cl hm F1 hr hb .nil (fun σ => passAt tk σ) ha hst hpl ht) fun σ H Q ⟨T, S, ⟨M, r⟩, h⟩ => ?_
  obtain ⟨s, hs, k1⟩ := h.bind.lift
  have hi : i < S.length := (List.getElem?_eq_some_iff.mp hs).1
  obtain ⟨v, hv⟩ : ∃ v, σ[i]? = some v := ⟨_, List.getElem?_eq_getElem (by rw [← r.len]; exact hi)⟩
  split at k1
  · rename_i io
    obtain ⟨p, dx, fs, rfl, hp, n, hf⟩ := isObS_at (r.allS i s v hs hv) io
    refine ⟨.ref p, hv, p, dx, fs, rfl, hp, lookup_none (by rw [hf]; exact fun z => D1.nf (List.mem_of_mem_take z)), _, _, ⟨M, r⟩, k1.bind.mono fun z h2 vs H2 M2 r3 hsv => ?_⟩
    obtain ⟨s', hs', k2⟩ := h2.bind.lift
    split at k2
    · show spD Γ G (.ref p :: (vs ++ [])) H2 Q (WE W σ)
      rw [List.append_nil]
      exact callG_ok r3 (.cons (a := .rf i) hv hsv) k2
    · exact k2.elim
  · exact k1.elim

/-! ### fields -/
def fieldOf (c j : Nat) : D → Option D
  | .obj c' l => if c' = c then l[j]? else none
  | _ => none
def fieldS (c j : Nat) (S : List Sl) : Sl → Option D
  | .rf i => match S[i]? with
    | some (.ob _ c' l) => if c' = c then l[j]? else none
    | _ => (peek S (.rf i)).bind (fieldOf c j)
  | r => (peek S r).bind (fieldOf c j)
def fFld (c j : Nat) (fo : Ef) : Ef := fun S => (fo S).bind fun a => lift ((fieldS c j a.2 a.1).map fun d => (.va d, a.2))
theorem fieldS_at {j : Nat} {f : Str} {M H : Hp} {T : List (Sl × Option V)} {S : List Sl} {σ : St} {r : Sl} {v : V} {d : D} (C : ClsF Γ X.K c) (hf : (Γ.fld c)[j]? = some f) (R : RepM Γ F M ((r, some v) :: T) S σ H) (e : fieldS c j S r = some d) :
    ∃ a dx fs y, v = .ref a ∧ H a = some (.ins (Γ.cls c) dx fs) ∧ fs.lookup f = some y ∧ At Γ M d y := by
  have plain : (peek S r).bind (fieldOf c j) = some d → ∃ a dx fs y, v = .ref a ∧ H a = some (.ins (Γ.cls c) dx fs) ∧ fs.lookup f = some y ∧ At Γ M d y := fun e0 => by
    clear e
    have e := e0
    clear e0
    cases h1 : peek S r with
    | none => simp [h1] at e
    | some d' =>
      rw [h1, Option.bind_some] at e
      have q := R.at_ List.mem_cons_self h1
      cases d' with
      | obj c' l =>
        dsimp only [fieldOf] at e
        split at e
        · rename_i ec
          subst ec
          obtain ⟨a, dx, fs, rfl, ha, hk, hs⟩ := q
          obtain ⟨y, hy, ay⟩ := hs.get e
          exact ⟨a, dx, fs, y, rfl, ha, lookup_at hk C.nd hf hy, ay⟩
        · cases e
      | _ => cases e
  cases r with
  | rf i =>
    dsimp only [fieldS] at e
    obtain ⟨q1, _⟩ := R.allT _ List.mem_cons_self
    cases h1 : S[i]? with
    | none =>
      rw [h1] at e
      exact plain e
    | some s =>
      rw [h1] at e
      cases s with
      | ob t c' l =>
        dsimp only at e
        split at e
        · rename_i ec
          subst ec
          obtain ⟨a, ea, _, ⟨dx, fs, ha, hk, hs⟩, _⟩ := R.allS i _ _ h1 q1
          cases ea
          obtain ⟨y, hy, ay⟩ := hs.get e
          have hj : j < l.length := (List.getElem?_eq_some_iff.mp e).1
          refine ⟨a, dx, fs, y, rfl, ha, lookup_at hk (List.Nodup.sublist (List.take_sublist _ _) C.nd) ?_ hy, ay⟩
          rw [List.getElem?_take, if_pos hj]
          exact hf
        · cases e
      | no => exact plain e
      | va _ => exact plain e
      | ow _ _ => exact plain e
      | sc _ => exact plain e
      | rf _ => exact plain e
      | hd _ => exact plain e
  | no => exact plain e
  | va _ => exact plain e
  | ow _ _ => exact plain e
  | ob _ _ _ => exact plain e
  | sc _ => exact plain e
  | hd _ => exact plain e
theorem de_fld {j : Nat} {f : Str} (C : ClsF Γ X.K c) (hf : (Γ.fld c)[j]? = some f) (ho : DE X Γ F W o fo) (hb : attributeBase o f X.env (eval o X.env) = eval o X.env) : DE X Γ F W (.Attribute o f pos) (fFld c j fo) :=
  PE.mono (pe_fld ho hb) fun σ H Q ⟨T, S, rep, h⟩ => ⟨T, S, rep, h.bind.mono fun a h1 x H1 ⟨M, r1⟩ => by
    obtain ⟨z, hz, k⟩ := h1.lift
    cases e1 : fieldS c j a.2 a.1 with
    | none => simp [e1] at hz
    | some d =>
      simp only [e1, Option.map_some, Option.some.injEq] at hz
      subst hz
      obtain ⟨p, dx, fs, y, rfl, hp, hl, hy⟩ := fieldS_at C hf r1 e1
      exact ⟨p, _, dx, fs, y, rfl, hp, C.cl, C.na f (List.mem_of_getElem? hf), hl, k y H1 ⟨M, r1.drop.push hy⟩⟩⟩
/-- a property of the class number c, with its getter's mirror -/
structure PropD (X : Cx) (Γ : Ct) (c : Nat) (k : Nat) (m : Str) (G : Gf) : Prop where
  ex : ∃ (p f : Addr) (fd : FuncData), FnOk X.prog X.w X.K X.mg X.base (L2.CX X.prog X.w) k f fd ["self"] (spD Γ G) ∧ PropOf X.K (Γ.cls c) m p f ∧ Binds X.K fd ["self"] []
  cf : ClsF Γ X.K c
def noEr {α : Type} : Rs α → Rs α
  | .ok a => .ok a
  | _ => .no
def fProp (c : Nat) (G : Gf) (fo : Ef) : Ef := fun S => (fo S).bind fun a => (lift (fz a.2 a.1)).bind fun b => if isObj c b.1 = true then noEr (callG G [.va b.1] b.2) else .no
theorem noEr_ok {α : Type} {σ : St} {r : Rs α} {k : α → Prop} {W' : WX} (h : Ok3 Γ F W σ (noEr r) k) : Ok3 Γ F W' σ r k := by
  cases r with
  | ok a => exact h
  | er c d => exact h.elim
  | no => exact h
theorem de_prop (D1 : PropD X Γ c k m G) (hr : Room (k + 1) X.A) (ho : DE X Γ F W o fo) (hab : attributeBase o m X.env (eval o X.env) = eval o X.env) : DE X Γ F W (.Attribute o m pos) (fProp c G fo) := by
  obtain ⟨pp, f, fd, F1, hp, hb⟩ := D1.ex
  refine PE.mono (pe_prop (dvs := []) (E := fun _ _ _ => False) ho D1.cf.cl hp F1 hr hb .nil passesF hab) fun σ H Q ⟨T, S, rep, h⟩ => ⟨T, S, rep, h.bind.mono fun a h1 x H1 ⟨M, r1⟩ => ?_⟩
  obtain ⟨b, hz, k1⟩ := h1.bind.lift
  obtain ⟨M', hx, _, r2⟩ := r1.fz hz
  split at k1
  · rename_i io
    obtain ⟨p, dx, fs, rfl, hp, hf⟩ := isObj_at hx io r2.sub
    exact ⟨p, dx, fs, rfl, hp, callG_ok (W := fun _ _ _ _ => False) r2.drop (.cons (a := .va b.1) hx .nil) (noEr_ok k1)⟩
  · exact k1.elim
end
end Mi

/-! The mirror layer: statements. -/
namespace Mi
open PySem L2
open PyProof.Rows hiding St

inductive Fl where
  | nx (S : List Sl) | rt (r : Sl) (S : List Sl) | bk (S : List Sl) | ct (S : List Sl)
abbrev Sf := List Sl → Rs Fl
def nrT (T : List (Sl × Option V)) : Prop := ∀ p ∈ T, p.1.isRf = false
abbrev wx (E : XK) : WX := fun c d _ H => E c d H
def fEnds (Γ : Ct) (F : Fr) (T : List (Sl × Option V)) (D : Ends) : Fl → Prop
  | .nx S' => ∀ σ' H', Rep Γ F T S' σ' H' → D.nx σ' H'
  | .rt r S' => ∀ v σ' H', Rep Γ F ((r, some v) :: T) S' σ' H' → D.rt v H'
  | .bk S' => ∀ σ' H', Rep Γ F T S' σ' H' → D.bk σ' H'
  | .ct S' => ∀ σ' H', Rep Γ F T S' σ' H' → D.ct σ' H'
def tSt (Γ : Ct) (F : Fr) (E : XK) (g : Sf) : TS := fun D σ H => ∃ T S, nrT T ∧ Rep Γ F T S σ H ∧ Ok3 Γ F (wx E) [] (g S) (fEnds Γ F T D)
def DS (X : Cx) (Γ : Ct) (F : Fr) (E : XK) (st : Stmt) (g : Sf) : Prop := PS X st (tSt Γ F E g)
def DSs (X : Cx) (Γ : Ct) (F : Fr) (E : XK) (st : List Stmt) (g : Sf) : Prop := PSs X st (tSt Γ F E g)
section
variable {Γ : Ct} {F : Fr} {E : XK} {α : Type}
theorem Ok3.sl {σ σ' : St} {r : Rs α} {k : α → Prop} (h : Ok3 Γ F (wx E) σ r k) : Ok3 Γ F (wx E) σ' r k := by
  cases r <;> exact h
theorem tE_mono {W : WX} {f : Ef} {σ : St} {H : Hp} {Q Q' : VK} (m : ∀ v H1, Q v H1 → Q' v H1) (h : tE Γ F W f σ H Q) : tE Γ F W f σ H Q' := by
  obtain ⟨T, S, rep, k⟩ := h
  exact ⟨T, S, rep, k.mono fun a q v H' r => m _ _ (q v H' r)⟩
end
section
variable {X : Cx} {Γ : Ct} {F : Fr} {E : XK} {e a b c tg : Expr} {st : Stmt} {rest body ss ss' : List Stmt} {f fa fb : Ef} {g g' gb : Sf} {t : Tf} {pos pos' : Pos}
def sNil : Sf := fun S => .ok (.nx S)
def sSeq (g g' : Sf) : Sf := fun S => (g S).bind fun fl => match fl with
  | .nx S' => g' S'
  | fl => .ok fl
theorem dss_nil : DSs X Γ F E [] sNil := PSs.mono pss_nil fun D σ H ⟨T, S, nr, rep, k⟩ => k σ H rep
theorem tSt_seq : ∀ D σ H, tSt Γ F E (sSeq g g') D σ H → tSeq (tSt Γ F E g) (tSt Γ F E g') D σ H := by
  rintro D σ H ⟨T, S, nr, rep, h⟩
  refine ⟨T, S, nr, rep, h.bind.mono fun fl q => ?_⟩
  cases fl with
  | nx S' => exact fun σ' H' r => ⟨T, S', nr, r, q⟩
  | rt r S' => exact q
  | bk S' => exact q
  | ct S' => exact q
theorem dss_cons (h1 : DS X Γ F E st g) (h2 : DSs X Γ F E rest g') : DSs X Γ F E (st :: rest) (sSeq g g') := PSs.mono (pss_cons h1 h2) tSt_seq
theorem dss_one (h1 : DS X Γ F E st g) : DSs X Γ F E [st] g := pss_one h1
theorem ds_pass : DS X Γ F E (.Pass pos) sNil := PS.mono ps_pass fun D σ H ⟨T, S, nr, rep, k⟩ => k σ H rep
def sBrk : Sf := fun S => .ok (.bk S)
def sCnt : Sf := fun S => .ok (.ct S)
theorem ds_break : DS X Γ F E (.Break pos) sBrk := PS.mono ps_break fun D σ H ⟨T, S, nr, rep, k⟩ => k σ H rep
theorem ds_continue : DS X Γ F E (.Continue pos) sCnt := PS.mono ps_continue fun D σ H ⟨T, S, nr, rep, k⟩ => k σ H rep
def sExp (f : Ef) : Sf := fun S => (f S).bind fun a => .ok (.nx a.2)
theorem ds_expr (he : DE X Γ F (wx E) e f) (hs : swapsWith e none pos.line X.env = pure false := by rfl) : DS X Γ F E (.Expr e pos) (sExp f) := PS.mono (ps_expr he hs) fun D σ H ⟨T, S, nr, rep, k⟩ => ⟨T, S, rep, Ok3.sl (k.bind.mono fun a q v H' ⟨M, r⟩ => q σ H' ⟨M, r.drop⟩)⟩
def sIf (t : Tf) (g g' : Sf) : Sf := fun S => (t S).bind fun a => if a.1 = true then g a.2 else g' a.2
theorem ds_if (hc : DT X Γ F (wx E) c t) (h1 : DSs X Γ F E ss g) (h2 : DSs X Γ F E ss' g') : DS X Γ F E (.If c ss ss' pos) (sIf t g g') := PS.mono (ps_if hc h1 h2) fun D σ H ⟨T, S, nr, rep, k⟩ => ⟨T, S, rep, Ok3.sl (k.bind.mono fun a q H1 rep1 => by
  cases e : a.1 with
  | true =>
    rw [e, if_pos rfl] at q
    rw [if_pos rfl]
    exact ⟨T, a.2, nr, rep1, q⟩
  | false =>
    rw [e, if_neg Bool.false_ne_true] at q
    rw [if_neg Bool.false_ne_true]
    exact ⟨T, a.2, nr, rep1, q⟩)⟩
/-! ### return -/
def outS (S : List Sl) : Sl → Option (Sl × List Sl)
  | .va d => some (.va d, S)
  | .ow 0 d => some (.ow 0 d, S)
  | .rf i => match S[i]? with
    | some (.va d) => some (.va d, S)
    | some (.ow 0 d) => some (.ow 0 d, S.set i .no)
    | _ => none
  | _ => none
theorem RepM.outS {M H : Hp} {T : List (Sl × Option V)} {S S' : List Sl} {σ : St} {r r' : Sl} {v : V} (R : RepM Γ F M ((r, some v) :: T) S σ H) (e : outS S r = some (r', S')) : RepM Γ F M ((r', some v) :: T) S' σ H := by
  cases r with
  | va d =>
    cases e
    exact R
  | ow t d =>
    cases t with
    | zero =>
      cases e
      exact R
    | succ t => cases e
  | rf i =>
    dsimp only [Mi.outS] at e
    obtain ⟨q1, _⟩ := R.allT _ List.mem_cons_self
    cases h1 : S[i]? with
    | none =>
      rw [h1] at e
      cases e
    | some s =>
      rw [h1] at e
      cases s with
      | va d =>
        cases e
        obtain ⟨x, ex, hx⟩ := R.allS i _ _ h1 q1
        cases ex
        exact R.drop.push hx
      | ow t d =>
        cases t with
        | zero =>
          cases e
          have z := R.allS i _ _ h1 q1
          have D0 := R.drop
          have hi : i < S.length := (List.getElem?_eq_some_iff.mp h1).1
          have get : ∀ j : Nat, (S.set i .no)[j]? = if i = j then some .no else S[j]? := fun j => by
            by_cases e : i = j
            · subst e
              rw [if_pos rfl, List.getElem?_set_self hi]
            · rw [if_neg e, List.getElem?_set_ne e]
          refine ⟨by rw [List.length_set]; exact R.len, fun j s hj => ?_, R.sub, R.frm, R.old, R.new, fun p hp => ?_, fun j s w h2 h3 => ?_, List.pairwise_cons.mpr ⟨fun p hp _ op => ?_, D0.disT⟩, fun j k s s' w ne h2 h3 o1 o2 => ?_, fun p hp op j s h2 o1 => ?_⟩
          · rw [get] at hj
            split at hj
            · cases hj
              rfl
            · exact R.nrf j s hj
          · rcases List.mem_cons.mp hp with rfl | hp
            · exact z.slots rfl
            · exact D0.allT p hp
          · rw [get] at h2
            split at h2
            · cases h2
              trivial
            · exact R.allS j s w h2 h3
          · have := D0.disX p hp op i _ h1 rfl
            rw [q1] at this
            exact fun z => this (by rw [z])
          · rw [get] at h2 h3
            split at h2
            · cases h2
              cases o1
            · split at h3
              · cases h3
                cases o2
              · exact R.disS j k s s' w ne h2 h3 o1 o2
          · rw [get] at h2
            split at h2
            · cases h2
              cases o1
            · rename_i ne
              rcases List.mem_cons.mp hp with rfl | hp
              · exact R.disS i j _ s _ ne h1 h2 rfl o1 q1
              · exact D0.disX p hp op j s h2 o1
        | succ t => cases e
      | _ => cases e
  | _ => cases e
def sRet (f : Ef) : Sf := fun S => (f S).bind fun a => lift ((outS a.2 a.1).map fun b => .rt b.1 b.2)
theorem ds_ret (he : DE X Γ F (wx E) e f) : DS X Γ F E (.Return (some e) pos) (sRet f) := PS.mono (ps_ret he) fun D σ H ⟨T, S, nr, rep, k⟩ => ⟨T, S, rep, Ok3.sl (k.bind.mono fun a q v H' ⟨M, r⟩ => by
  obtain ⟨z, hz, k⟩ := q.lift
  cases e1 : outS a.2 a.1 with
  | none => simp [e1] at hz
  | some b =>
    simp only [e1, Option.map_some, Option.some.injEq] at hz
    subst hz
    exact k v σ H' ⟨M, r.outS e1⟩)⟩
def sRetN : Sf := fun S => .ok (.rt (.va .non) S)
theorem ds_retN : DS X Γ F E (.Return none pos) sRetN := PS.mono ps_retN fun D σ H ⟨T, S, nr, ⟨M, r⟩, k⟩ => k .non σ H ⟨M, r.push rfl⟩

/-! ### x = e -/
def keepS (S : List Sl) : Sl → Option (Sl × List Sl)
  | .va d => some (.va d, S)
  | .ow 0 d => some (.ow 0 d, S)
  | .rf i => (fz S (.rf i)).map fun b => (.va b.1, b.2)
  | _ => none
theorem RepM.keepS {M H : Hp} {T : List (Sl × Option V)} {S S' : List Sl} {σ : St} {r r' : Sl} {v : V} (R : RepM Γ F M ((r, some v) :: T) S σ H) (e : keepS S r = some (r', S')) : ∃ M', RepM Γ F M' ((r', some v) :: T) S' σ H ∧ r'.isRf = false ∧ S'.length = S.length := by
  cases r with
  | va d =>
    cases e
    exact ⟨M, R, rfl, rfl⟩
  | ow t d =>
    cases t with
    | zero =>
      cases e
      exact ⟨M, R, rfl, rfl⟩
    | succ t => cases e
  | rf i =>
    dsimp only [Mi.keepS] at e
    cases h1 : Mi.fz S (.rf i) with
    | none => simp [h1] at e
    | some b =>
      simp only [h1, Option.map_some, Option.some.injEq, Prod.mk.injEq] at e
      obtain ⟨rfl, rfl⟩ := e
      obtain ⟨M', _, _, R'⟩ := R.fz (d := b.1) (S' := b.2) h1
      refine ⟨M', R', rfl, ?_⟩
      rw [R'.len, R.len]
  | _ => cases e
def sSet (i : Nat) (f : Ef) : Sf := fun S => (f S).bind fun a => (lift (keepS a.2 a.1)).bind fun b => if i < b.2.length then .ok (.nx (b.2.set i b.1)) else .no
theorem ds_set {i : Nat} {x : Str} {px : Pos} (hN : X.N.Nodup) (hi : X.N[i]? = some x) (hx : Loc X.env.scope x) (he : DE X Γ F (wx E) e f) (hs : swapsWith e (some (.Name x px)) pos.line X.env = pure false := by rfl) (hf : X.fn x = true ∨ X.env.scope.names.lookup x = some .local := by first | exact .inl rfl | exact .inr rfl | assumption) :
    DS X Γ F E (.Assign [.Name x px] e pos) (sSet i f) := PS.mono (ps_set hN hi hx he hs hf) fun D σ H ⟨T, S, nr, rep, k⟩ => ⟨T, S, rep, Ok3.sl (k.bind.mono fun a q v H' ⟨M, r⟩ => by
  obtain ⟨b, hb, k⟩ := q.bind.lift
  obtain ⟨M', r', nrf, _⟩ := r.keepS (r' := b.1) (S' := b.2) hb
  split at k
  · exact k _ _ ⟨M', r'.put nrf nr (by assumption)⟩
  · exact k.elim)⟩

/-! ### targets -/
abbrev Bf := D → List Sl → Option (List Sl)
abbrev Bfs := List D → List Sl → Option (List Sl)
/-- alike but at the places is -/
def Agree (is : List Nat) (σ σ' : St) : Prop := σ.length = σ'.length ∧ ∀ i, i ∉ is → σ[i]? = σ'[i]?
theorem Agree.refl {is : List Nat} {σ : St} : Agree is σ σ := ⟨rfl, fun _ _ => rfl⟩
theorem Agree.mono {is js : List Nat} {σ σ' : St} (h : Agree is σ σ') (m : ∀ i ∈ is, i ∈ js) : Agree js σ σ' := ⟨h.1, fun i hi => h.2 i fun z => hi (m i z)⟩
theorem Agree.trans {is : List Nat} {σ σ1 σ2 : St} (h : Agree is σ σ1) (h' : Agree is σ1 σ2) : Agree is σ σ2 := ⟨h.1.trans h'.1, fun i hi => (h.2 i hi).trans (h'.2 i hi)⟩
def tGd (Γ : Ct) (F : Fr) (is : List Nat) (b : Bf) : TG := fun v σ H Q => ∃ T S d M S', nrT T ∧ RepM Γ F M T S σ H ∧ At Γ M d v ∧ b d S = some S' ∧ ∀ σ' H', Rep Γ F T S' σ' H' → Agree is σ σ' → Q σ' H'
def tGs (Γ : Ct) (F : Fr) (is : List Nat) (b : Bfs) : TGs := fun vs σ H Q => ∃ T S ds M S', nrT T ∧ RepM Γ F M T S σ H ∧ Ats Γ M ds vs ∧ b ds S = some S' ∧ ∀ σ' H', Rep Γ F T S' σ' H' → Agree is σ σ' → Q σ' H'
def DG (X : Cx) (Γ : Ct) (F : Fr) (tg : Expr) (is : List Nat) (b : Bf) : Prop := PG X tg (tGd Γ F is b)
def DGs (X : Cx) (Γ : Ct) (F : Fr) (tgs : List Expr) (is : List Nat) (b : Bfs) : Prop := PGs X tgs (tGs Γ F is b)
theorem PG.mono {tg : Expr} {t t' : TG} (h : PG X tg t) (m : ∀ v σ H Q, t' v σ H Q → t v σ H Q) : PG X tg t' := ⟨fun pins s σ H v u Q I r q => h.run pins s σ H v u Q I r (m v σ H Q q)⟩
theorem PGs.mono {tg : List Expr} {t t' : TGs} (h : PGs X tg t) (m : ∀ v σ H Q, t' v σ H Q → t v σ H Q) : PGs X tg t' := ⟨fun pins s σ H v u Q I r q => h.run pins s σ H v u Q I r (m v σ H Q q)⟩
def bName (i : Nat) : Bf := fun d S => if i < S.length then some (S.set i (.va d)) else none
theorem dg_name {i : Nat} {x : Str} (hN : X.N.Nodup) (hi : X.N[i]? = some x) (hx : Loc X.env.scope x) (hf : X.fn x = true ∨ X.env.scope.names.lookup x = some .local := by first | exact .inl rfl | exact .inr rfl | assumption) : DG X Γ F (.Name x pos) [i] (bName i) :=
  PG.mono (pg_name hN hi hx hf) fun v σ H Q ⟨T, S, d, M, S', nr, R, h, hb, k⟩ => by
    unfold bName at hb
    split at hb
    · cases hb
      refine k _ _ ⟨M, (R.push h).put rfl nr (by assumption)⟩ ⟨by rw [List.length_set], fun j hj => ?_⟩
      rw [List.getElem?_set_ne fun z => hj (by rw [z]; exact List.mem_singleton.mpr rfl)]
    · cases hb
/-- data on the pile -/
def pile (ds : List D) (vs : List V) (T : List (Sl × Option V)) : List (Sl × Option V) := match ds, vs with
  | d :: ds, v :: vs => (.va d, some v) :: pile ds vs T
  | _, _ => T
theorem pile_nr : ∀ {ds : List D} {vs : List V} {T : List (Sl × Option V)}, nrT T → nrT (pile ds vs T)
  | [], _, _, h => h
  | _ :: _, [], _, h => h
  | d :: ds, v :: vs, T, h => fun p hp => by
    rcases List.mem_cons.mp (show p ∈ (Sl.va d, some v) :: pile ds vs T from hp) with rfl | hp
    · rfl
    · exact pile_nr (ds := ds) (vs := vs) h p hp
theorem RepM.pile {M H : Hp} {T : List (Sl × Option V)} {S : List Sl} {σ : St} (R : RepM Γ F M T S σ H) : ∀ {ds : List D} {vs : List V}, Ats Γ M ds vs → RepM Γ F M (pile ds vs T) S σ H
  | [], _, _ => by cases ‹List V› <;> exact R
  | d :: ds, _, h => by
    obtain ⟨x, r, rfl, h1, h2⟩ := h
    exact (RepM.pile R h2).push h1
theorem RepM.unpile {M H : Hp} {T : List (Sl × Option V)} {S : List Sl} {σ : St} : ∀ {ds : List D} {vs : List V}, vs.length = ds.length → RepM Γ F M (Mi.pile ds vs T) S σ H → RepM Γ F M T S σ H ∧ Ats Γ M ds vs
  | [], [], _, R => ⟨R, rfl⟩
  | d :: ds, v :: vs, hl, R => by
    have R' : RepM Γ F M ((.va d, some v) :: Mi.pile ds vs T) S σ H := R
    obtain ⟨R2, h2⟩ := RepM.unpile (ds := ds) (vs := vs) (by simpa using hl) R'.drop
    obtain ⟨x, ex, hx⟩ := R'.allT _ List.mem_cons_self
    cases ex
    exact ⟨R2, v, vs, rfl, hx, h2⟩
def bsNil : Bfs := fun ds S => match ds with
  | [] => some S
  | _ => none
def bsCons (b : Bf) (bs : Bfs) : Bfs := fun ds S => match ds with
  | d :: ds => (b d S).bind fun S1 => bs ds S1
  | [] => none
theorem dgs_nil : DGs X Γ F [] [] bsNil := PGs.mono pgs_nil fun vs σ H Q ⟨T, S, ds, M, S', nr, R, h, hb, k⟩ => by
  cases ds with
  | nil =>
    cases hb
    exact ⟨h, k σ H ⟨M, R⟩ Agree.refl⟩
  | cons d ds => cases hb
theorem dgs_cons {es : List Expr} {is js : List Nat} {bb : Bf} {bs : Bfs} (h1 : DG X Γ F e is bb) (h2 : DGs X Γ F es js bs) (hs : (assignEach (e :: es) X.env).map (·.2) = assign e X.env :: (assignEach es X.env).map (·.2) := by rfl) : DGs X Γ F (e :: es) (is ++ js) (bsCons bb bs) :=
  PGs.mono (pgs_cons h1 h2 hs) fun vs σ H Q ⟨T, S, ds, M, S', nr, R, h, hb, k⟩ => by
    cases ds with
    | nil => cases hb
    | cons d ds =>
      obtain ⟨x, r, rfl, hx, hr⟩ := h
      dsimp only [bsCons] at hb
      cases e1 : bb d S with
      | none => simp [e1] at hb
      | some S1 =>
        rw [e1, Option.bind_some] at hb
        refine ⟨x, r, rfl, Mi.pile ds r T, S, d, M, S1, pile_nr nr, R.pile hr, hx, e1, fun σ' H' ⟨M', R'⟩ ag => ?_⟩
        obtain ⟨R2, h2⟩ := R'.unpile hr.len
        exact ⟨T, S1, ds, M', S', nr, R2, h2, hb, fun σ2 H2 r2 ag2 => k σ2 H2 r2 ((ag.mono fun i hi => List.mem_append_left _ hi).trans (ag2.mono fun i hi => List.mem_append_right _ hi))⟩
def bTup (n : Nat) (bs : Bfs) : Bf := fun d S => match d with
  | .tup l => if l.length = n then bs l S else none
  | _ => none
theorem dg_tup {es : List Expr} {kk : Nat} {is : List Nat} {bs : Bfs} {n : Nat} (hc : X.calm = true) (h : DGs X Γ F es is bs) (hn : (assignEach es X.env).length = n := by rfl) (hst : (assignEach es X.env).findIdx? (·.1) = none := by rfl) : DG X Γ F (.Tuple es kk pos) is (bTup n bs) :=
  PG.mono (pg_tup hc h hn hst) fun v σ H Q ⟨T, S, d, M, S', nr, R, h, hb, k⟩ => by
    unfold bTup at hb
    split at hb
    · split at hb
      · obtain ⟨a, xs, rfl, ha, hs⟩ := h
        exact ⟨a, xs, rfl, SqT.of (R.sub _ _ ha), by rw [hs.len]; assumption, T, S, _, M, S', nr, R, hs, hb, k⟩
      · cases hb
    · cases hb
/-- target = e -/
def sAsg (b : Bf) (f : Ef) : Sf := fun S => (f S).bind fun a => (lift (fz a.2 a.1)).bind fun z => (lift (b z.1 z.2)).bind fun S' => .ok (.nx S')
theorem ds_asg {is : List Nat} {bb : Bf} (he : DE X Γ F (wx E) e f) (hg : DG X Γ F tg is bb) (hs : swapsWithSole [tg] e pos.line X.env = pure false := by rfl) (hw : swappedStores [tg] e X.env = pure none := by rfl) (h1 : (assignEach [tg] X.env).map (·.2) = [assign tg X.env] := by rfl) :
    DS X Γ F E (.Assign [tg] e pos) (sAsg bb f) := PS.mono (ps_asg he hg hs hw h1) fun D σ H ⟨T, S, nr, rep, k⟩ => ⟨T, S, rep, Ok3.sl (k.bind.mono fun a q v H' ⟨M, r⟩ => by
  obtain ⟨z, hz, k1⟩ := q.bind.lift
  obtain ⟨S', hb, k2⟩ := k1.bind.lift
  obtain ⟨M', hx, _, r2⟩ := r.fz hz
  exact ⟨T, z.2, z.1, M', S', nr, r2.drop, hx, hb, fun σ' H' r _ => k2 σ' H' r⟩)⟩
/-- a, b = x, y (two local names) -/
def sPar (i j : Nat) (g : Af) : Sf := fun S => (g S).bind fun a => match a.1 with
  | [d, e] => if i < a.2.length ∧ j < a.2.length then .ok (.nx ((a.2.set i (.va d)).set j (.va e))) else .no
  | _ => .no
theorem ds_par {i j : Nat} {x y : Str} {g : Af} {px py pt : Pos} {kt k2 pt2} (hc : X.calm = true) (hN : X.N.Nodup) (hi : X.N[i]? = some x) (hj : X.N[j]? = some y) (hij : i ≠ j)
    (hx : X.env.scope.names.lookup x = some .local) (hy : X.env.scope.names.lookup y = some .local) (ha : DA X Γ F (wx E) [a, b] g) (h : PA X [a, b] (tA Γ F (wx E) g) → PS X (.Assign [.Tuple [.Name x px, .Name y py] kt pt] (.Tuple [a, b] k2 pt2) pos) (tPar i j (tA Γ F (wx E) g))) :
    DS X Γ F E (.Assign [.Tuple [.Name x px, .Name y py] kt pt] (.Tuple [a, b] k2 pt2) pos) (sPar i j g) := PS.mono (h ha) fun D σ H ⟨T, S, nr, rep, k⟩ => ⟨T, S, rep, Ok3.sl (k.bind.mono fun z q vs H' M r hs => by
  split at q
  · rename_i d e1 he
    split at q
    · rename_i hl
      rw [he] at hs
      obtain ⟨v, vr, rfl, hd, hs⟩ := hs
      obtain ⟨w, wr, rfl, hw, hs⟩ := hs
      obtain rfl := hs
      refine ⟨v, w, rfl, q _ _ ⟨M, ?_⟩⟩
      have r1 : RepM Γ F M T (z.2.set i (.va d)) (σ.set i (some v)) H' := (r.push hd).put rfl nr hl.1
      exact (r1.push hw).put rfl nr (by rw [List.length_set]; exact hl.2)
    · exact q.elim
  · exact q.elim)⟩

/-! ### while -/
def wF (t : Tf) (gb : Sf) : Nat → List Sl → Rs Fl
  | 0, _ => .no
  | n + 1, S => (t S).bind fun a => if a.1 = true then (gb a.2).bind fun fl => match fl with
      | .nx S' => wF t gb n S'
      | .ct S' => wF t gb n S'
      | .bk S' => .ok (.nx S')
      | .rt r S' => .ok (.rt r S')
    else .ok (.nx a.2)
theorem ds_while (n : Nat) (hp : PassesOwn (model X.prog X.w) X.A X.env X.xe) (hc : DT X Γ F (wx E) c t) (hb : DSs X Γ F E body gb) : DS X Γ F E (.While c body [] pos) (wF t gb n) := PS.mono (ps_while hp hc hb) fun D σ H ⟨T, S, nr, rep, h⟩ => by
  refine ⟨fun m σ H => ∃ S, Rep Γ F T S σ H ∧ Ok3 Γ F (wx E) [] (wF t gb m S) (fEnds Γ F T D), ⟨n, S, rep, h⟩, ?_⟩
  rintro m σ H ⟨S, rep, h⟩
  cases m with
  | zero => exact h.elim
  | succ m =>
    refine ⟨T, S, rep, Ok3.sl (h.bind.mono fun a q H1 rep1 => ?_)⟩
    cases e : a.1 with
    | false =>
      rw [e, if_neg Bool.false_ne_true] at q
      rw [if_neg Bool.false_ne_true]
      exact q σ H1 rep1
    | true =>
      rw [e, if_pos rfl] at q
      rw [if_pos rfl]
      refine ⟨fun σ' H' => ∃ S, Rep Γ F T S σ' H' ∧ Ok3 Γ F (wx E) [] (wF t gb m S) (fEnds Γ F T D), fun σ' H' z => ⟨m, Nat.lt_succ_self m, z⟩, T, a.2, nr, rep1, q.bind.mono fun fl z => ?_⟩
      cases fl with
      | nx S' => exact fun σ' H' r => ⟨S', r, z⟩
      | ct S' => exact fun σ' H' r => ⟨S', r, z⟩
      | bk S' => exact z
      | rt r S' => exact z

/-! ### for -/
def HeldAt (Γ : Ct) (M : Hp) : Sl × Option V → Prop
  | (.va d, v) => ∃ x, v = some x ∧ At Γ M d x
  | (.hd o, v) => ∃ a, v = some (.ref a) ∧ M a = some o
  | _ => False
def WalkD (Γ : Ct) (hs : List (Sl × Option V)) (ds : List D) (J : It) : Prop := ∃ G Y, Walk J ds.length G Y ∧ (∀ M1 H1, (∀ q ∈ hs, HeldAt Γ M1 q) → Same M1 H1 → G H1) ∧
  ∀ i H1 M1 x H2, i < ds.length → (∀ q ∈ hs, HeldAt Γ M1 q) → Same M1 H1 → Y i H1 x H2 → ∃ M2 d, Grow H1 M1 H2 M2 ∧ ds[i]? = some d ∧ At Γ M2 d x
def held (s : Sl) : Bool := match s with
  | .va _ => true
  | .hd _ => true
  | _ => false
abbrev If := List Sl → Rs (List D × List Sl)
def tI (Γ : Ct) (F : Fr) (W : WX) (g : If) : TI := fun σ H R => ∃ T S, Rep Γ F T S σ H ∧ Ok3 Γ F W σ (g S) fun a => ∀ J H' M hs, (∀ q ∈ hs, held q.1 = true) → RepM Γ F M (hs ++ T) a.2 σ H' → WalkD Γ hs a.1 J → R J H'
def DI (X : Cx) (Γ : Ct) (F : Fr) (W : WX) (tg iter : Expr) (g : If) : Prop := PI X tg iter (tI Γ F W g)
theorem PI.mono {tg it : Expr} {t t' : TI} (h : PI X tg it t) (m : ∀ σ H R, t' σ H R → t σ H R) : PI X tg it t' := ⟨fun pins s σ H R I q => h.run pins s σ H R I (m σ H R q)⟩
theorem held_at {M H : Hp} {T hs : List (Sl × Option V)} {S : List Sl} {σ : St} (R : RepM Γ F M (hs ++ T) S σ H) (h : ∀ q ∈ hs, held q.1 = true) : ∀ q ∈ hs, HeldAt Γ M q := fun q hq => by
  have z := R.allT q (List.mem_append_left _ hq)
  have y := h q hq
  obtain ⟨s, v⟩ := q
  cases s with
  | va d => exact z
  | hd o => exact z
  | _ => cases y
theorem RepM.dropL {M H : Hp} {T : List (Sl × Option V)} {S : List Sl} {σ : St} : ∀ {hs : List (Sl × Option V)}, RepM Γ F M (hs ++ T) S σ H → RepM Γ F M T S σ H
  | [], R => R
  | q :: hs, R => RepM.dropL (hs := hs) (RepM.drop (p := q) R)
def loopF (b : Bf) (gb : Sf) : List D → List Sl → Rs Fl
  | [], S => .ok (.nx S)
  | d :: l, S => (lift (b d S)).bind fun S1 => (gb S1).bind fun fl => match fl with
    | .nx S2 => loopF b gb l S2
    | .ct S2 => loopF b gb l S2
    | .bk S2 => .ok (.nx S2)
    | .rt r S2 => .ok (.rt r S2)
def sFor (g : If) (b : Bf) (gb : Sf) : Sf := fun S => (g S).bind fun a => loopF b gb a.1 a.2
theorem RepM.tops {M H : Hp} {T : List (Sl × Option V)} {S : List Sl} {σ : St} {r : Sl} {v : V} : ∀ {hs : List (Sl × Option V)}, RepM Γ F M ((r, some v) :: (hs ++ T)) S σ H → RepM Γ F M ((r, some v) :: T) S σ H
  | [], R => R
  | q :: hs, R => RepM.tops (hs := hs) (RepM.drop1 (p := q) R)
theorem ds_for {g : If} {is : List Nat} {bb : Bf} {iter : Expr} (hp : PassesOwn (model X.prog X.w) X.A X.env X.xe) (hc : X.calm = true) (hi : DI X Γ F (wx E) tg iter g) (hg : DG X Γ F tg is bb) (hb : DSs X Γ F E body gb) (hs : ∀ x, foldedSetIterable iter X.env x = pure x := by intro _; rfl) :
    DS X Γ F E (.For tg iter body [] pos) (sFor g bb gb) := PS.mono (ps_for hp hc hi hg hb hs) fun D σ H ⟨T, S, nr, rep, h⟩ => by
  refine ⟨T, S, rep, Ok3.sl (h.bind.mono fun a q J H1 M hs hh R w => ?_)⟩
  obtain ⟨G, Y, wk, hG, hY⟩ := w
  have nr' : nrT (hs ++ T) := fun p hp => by
    rcases List.mem_append.mp hp with z | z
    · have y := hh p z
      obtain ⟨s, v⟩ := p
      cases s <;> first | rfl | cases y
    · exact nr p z
  refine for_it wk (fun i σ' H' => ∃ S', Rep Γ F (hs ++ T) S' σ' H' ∧ Ok3 Γ F (wx E) [] (loopF bb gb (a.1.drop i) S') (fEnds Γ F T D)) ⟨a.2, ⟨M, R⟩, q⟩ ?_ ?_ ?_
  · rintro i σ' H' _ ⟨S', ⟨M', R'⟩, _⟩
    exact hG M' H' (held_at R' hh) R'.sub
  · rintro i x σ' H' H2 hi' ⟨S', ⟨M', R'⟩, h'⟩ y
    obtain ⟨M2, d, gr, hd, hx⟩ := hY i H' M' x H2 hi' (held_at R' hh) R'.sub y
    have ed : a.1.drop i = d :: a.1.drop (i + 1) := by
      rw [List.drop_eq_getElem_cons hi']
      rw [List.getElem?_eq_getElem hi'] at hd
      cases hd
      rfl
    rw [ed] at h'
    obtain ⟨S1, hb1, k1⟩ := h'.bind.lift
    refine ⟨hs ++ T, S', d, M2, S1, nr', R'.grow gr, hx, hb1, fun σ2 H3 rep3 _ => ⟨hs ++ T, S1, nr', rep3, k1.bind.mono fun fl z => ?_⟩⟩
    cases fl with
    | nx S2 => exact fun σ3 H4 r => ⟨S2, r, z⟩
    | ct S2 => exact fun σ3 H4 r => ⟨S2, r, z⟩
    | bk S2 => exact fun σ3 H4 ⟨M4, r⟩ => z σ3 H4 ⟨M4, r.dropL⟩
    | rt r S2 => exact fun v σ3 H4 ⟨M4, r⟩ => z v σ3 H4 ⟨M4, r.tops⟩
  · rintro σ' H' ⟨S', ⟨M', R'⟩, h'⟩
    rw [List.drop_length] at h'
    exact h' σ' H' ⟨M', R'.dropL⟩
end
end Mi

/-! The mirror layer: a def's mirror and its promise; raise; what a for walks. -/
namespace Mi
open PySem L2
open PyProof.Rows hiding St

def unOw : Sl → Sl
  | .ow _ _ => .no
  | .ob _ _ _ => .no
  | s => s
def outOne (j : Nat) (s : Sl) : Sl → Option Sl
  | .ow _ _ => match s with
    | .ow t d => if t = j + 1 then some (.ow t d) else none
    | _ => none
  | .ob _ _ _ => match s with
    | .ob t c l => if t = j + 1 then some (.ob t c l) else none
    | _ => none
  | a => some a
def outAll (S : List Sl) : Nat → List Sl → Option (List Sl)
  | _, [] => some []
  | j, a :: as => (S[j]?.bind fun s => outOne j s a).bind fun x => (outAll S (j + 1) as).map fun xs => x :: xs
/-- the mirror of a def with m parameters and n names -/
def mir (n m : Nat) (g : Sf) : Gf := fun args => if args.length = m then (g (args ++ List.replicate (n - args.length) .no)).bind fun fl => match fl with
  | .rt r S => if r.isRf = true then .no else (lift (outAll S 0 args)).bind fun os => .ok (r, os)
  | .nx S => (lift (outAll S 0 args)).bind fun os => .ok (.va .non, os)
  | _ => .no else .no
theorem outAll_get {S : List Sl} : ∀ {args os : List Sl} {k : Nat}, outAll S k args = some os → os.length = args.length ∧ ∀ (j : Nat) (a : Sl), args[j]? = some a → ∃ s x, S[k + j]? = some s ∧ os[j]? = some x ∧ outOne (k + j) s a = some x
  | [], _, _, e => by
    cases e
    exact ⟨rfl, fun j a h => by simp at h⟩
  | a :: as, os, k, e => by
    unfold outAll at e
    cases h0 : S[k]? with
    | none => simp [h0] at e
    | some s =>
      cases h1 : outOne k s a with
      | none => simp [h0, h1] at e
      | some x =>
        cases h2 : outAll S (k + 1) as with
        | none => simp [h0, h1, h2] at e
        | some ys =>
          simp only [h0, h1, h2, Option.bind_some, Option.map_some, Option.some.injEq] at e
          subst e
          obtain ⟨l, g⟩ := outAll_get h2
          refine ⟨by rw [List.length_cons, List.length_cons, l], fun j b hb => ?_⟩
          cases j with
          | zero =>
            simp only [List.getElem?_cons_zero, Option.some.injEq] at hb
            subst hb
            exact ⟨s, x, h0, rfl, h1⟩
          | succ j =>
            simp only [List.getElem?_cons_succ] at hb
            obtain ⟨s', y, hs', hy, e⟩ := g j b hb
            have ek : k + (j + 1) = k + 1 + j := by omega
            exact ⟨s', y, by rw [ek]; exact hs', by simpa using hy, by rw [ek]; exact e⟩
section
variable {Γ : Ct} {F : Fr} {M H : Hp} {args : List Sl} {vs : List V}
theorem unOw_ow (s : Sl) : (unOw s).isOw = false := by cases s <;> rfl
theorem unOw_rf {s : Sl} (h : s.isRf = false) : (unOw s).isRf = false := by cases s <;> first | rfl | cases h
theorem unOw_at {σ : St} {s : Sl} {v : Option V} (h : SlAt Γ F σ H M s v) : SlAt Γ F σ H M (unOw s) v := by
  cases s <;> first | exact h | trivial
/-- the copies of the arguments that are kept for the end -/
def copies (args : List Sl) (vs : List V) : List (Sl × Option V) := (args.map unOw).zip (vs.map some)
theorem copies_get (j : Nat) (a : Sl) (v : V) (ha : args[j]? = some a) (hv : vs[j]? = some v) : (unOw a, some v) ∈ copies args vs := by
  refine List.mem_of_getElem? (i := j) ?_
  unfold copies
  rw [List.getElem?_zip_eq_some]
  exact ⟨by rw [List.getElem?_map, ha]; rfl, by rw [List.getElem?_map, hv]; rfl⟩
theorem of_copies {p : Sl × Option V} (hp : p ∈ copies args vs) : ∃ (j : Nat) (a : Sl) (v : V), args[j]? = some a ∧ vs[j]? = some v ∧ p = (unOw a, some v) := by
  obtain ⟨j, hj, e⟩ := List.getElem_of_mem hp
  have e' : (copies args vs)[j]? = some p := by rw [List.getElem?_eq_getElem hj, e]
  obtain ⟨p1, p2⟩ := p
  unfold copies at e'
  rw [List.getElem?_zip_eq_some, List.getElem?_map, List.getElem?_map] at e'
  obtain ⟨e1, e2⟩ := e'
  cases ha : args[j]? with
  | none => simp [ha] at e1
  | some a =>
    cases hv : vs[j]? with
    | none => simp [hv] at e2
    | some v =>
      rw [ha] at e1
      rw [hv] at e2
      simp only [Option.map_some, Option.some.injEq] at e1 e2
      exact ⟨j, a, v, ha, hv, by rw [e1, e2]⟩
theorem RepM.entry {n : Nat} (R : RepM Γ F M [] args (vs.map some) H) : RepM Γ F M (copies args vs) (args ++ List.replicate (n - args.length) .no) (vs.map some ++ List.replicate (n - vs.length) none) H := by
  have el : args.length = vs.length := by have := R.len; rw [List.length_map] at this; exact this
  have low : ∀ {j : Nat} {s : Sl} {w : Option V}, (args ++ List.replicate (n - args.length) .no)[j]? = some s → (vs.map some ++ List.replicate (n - vs.length) none)[j]? = some w → (args[j]? = some s ∧ (vs.map some)[j]? = some w) ∨ s = .no := fun {j s w} h1 h2 => by
    by_cases hj : j < args.length
    · rw [List.getElem?_append_left hj] at h1
      rw [List.getElem?_append_left (by rw [List.length_map, ← el]; exact hj)] at h2
      exact .inl ⟨h1, h2⟩
    · rw [List.getElem?_append_right (by omega), List.getElem?_replicate] at h1
      split at h1
      · cases h1
        exact .inr rfl
      · cases h1
  have sameLen : (args ++ List.replicate (n - args.length) Sl.no).length = (vs.map some ++ List.replicate (n - vs.length) none).length := by
    rw [List.length_append, List.length_append, List.length_replicate, List.length_replicate, List.length_map, el]
  have at_ : ∀ {j : Nat} {s : Sl}, (args ++ List.replicate (n - args.length) .no)[j]? = some s → ∃ w, (vs.map some ++ List.replicate (n - vs.length) none)[j]? = some w := fun {j s} h => by
    have hj := (List.getElem?_eq_some_iff.mp h).1
    exact ⟨_, List.getElem?_eq_getElem (by rw [← sameLen]; exact hj)⟩
  refine ⟨sameLen, fun j s hj => ?_, R.sub, R.frm, R.old, R.new, fun p hp => ?_, fun j s w h1 h2 => ?_, ?_, fun j k s s' w ne h1 h2 o1 o2 h3 h4 => ?_, fun p hp op => ?_⟩
  · obtain ⟨w, hw⟩ := at_ hj
    rcases low hj hw with ⟨z, _⟩ | rfl
    · exact R.nrf j s z
    · rfl
  · obtain ⟨j, a, v, ha, hv, rfl⟩ := of_copies hp
    have z := R.allS j a (some v) ha (by rw [List.getElem?_map, hv]; rfl)
    exact (unOw_at z).slots (unOw_rf (R.nrf j a ha))
  · rcases low h1 h2 with ⟨z1, z2⟩ | rfl
    · exact (R.allS j s w z1 z2).slots (R.nrf j s z1)
    · trivial
  · refine List.pairwise_iff_getElem.mpr fun i j hi hj _ o1 => ?_
    obtain ⟨j', a, v, ha, hv, e⟩ := of_copies (List.getElem_mem hi)
    rw [e, unOw_ow] at o1
    cases o1
  · rcases low h1 h3 with ⟨z1, z2⟩ | rfl
    · rcases low h2 h4 with ⟨y1, y2⟩ | rfl
      · exact R.disS j k s s' w ne z1 y1 o1 o2 z2 y2
      · cases o2
    · cases o1
  · obtain ⟨j, a, v, ha, hv, rfl⟩ := of_copies hp
    rw [unOw_ow] at op
    cases op
theorem RepM.exit {M' H' : Hp} {r : Sl} {v : V} {S os : List Sl} {σ : St} (R : RepM Γ F M [] args (vs.map some) H) (tag : ∀ (j t : Nat) (s : Sl), args[j]? = some s → tagOf s = some t → t = j + 1) (R' : RepM Γ F M' ((r, some v) :: copies args vs) S σ H') (e : outAll S 0 args = some os) (nr : r.isRf = false) :
    RepM Γ F M' [(r, some v)] os (vs.map some) H' := by
  obtain ⟨le, g⟩ := outAll_get e
  have el : args.length = vs.length := by have := R.len; rw [List.length_map] at this; exact this
  have key : ∀ (j : Nat) (x : Sl), os[j]? = some x → ∃ a v s, args[j]? = some a ∧ vs[j]? = some v ∧ S[j]? = some s ∧ outOne j s a = some x := fun j x hx => by
    have hj : j < args.length := by rw [← le]; exact (List.getElem?_eq_some_iff.mp hx).1
    obtain ⟨s, x', hs, hx', ex⟩ := g j _ (List.getElem?_eq_getElem hj)
    rw [hx] at hx'
    cases hx'
    rw [Nat.zero_add] at hs ex
    exact ⟨_, _, s, List.getElem?_eq_getElem hj, List.getElem?_eq_getElem (by rw [← el]; exact hj), hs, ex⟩
  have own : ∀ (j : Nat) (x : Sl), os[j]? = some x → x.isOw = true → S[j]? = some x ∧ ∃ a0 : Addr, vs[j]? = some (.ref a0) ∧ σ[j]? = some (some (.ref a0)) := fun j x hx ox => by
    obtain ⟨a, w, s, ha, hw, hs, ex⟩ := key j x hx
    have hwm : (vs.map some)[j]? = some (some w) := by rw [List.getElem?_map, hw]; rfl
    have z := R.allS j a (some w) ha hwm
    have hj : j < S.length := (List.getElem?_eq_some_iff.mp hs).1
    obtain ⟨y, hy⟩ : ∃ y, σ[j]? = some y := ⟨_, List.getElem?_eq_getElem (by rw [← R'.len]; exact hj)⟩
    have q := R'.allS j s y hs hy
    cases a with
    | ow t d =>
      have et := tag j t _ ha rfl
      obtain ⟨a0, e0, _, _, l0⟩ := z
      cases e0
      cases s with
      | ow t2 d2 =>
        dsimp only [outOne] at ex
        split at ex
        · rename_i e2
          cases ex
          obtain ⟨a1, e1, _, _, l1⟩ := q
          have b0 := l0.2 j et
          have b1 := l1.2 j e2
          rw [b0] at b1
          cases b1
          cases e1
          exact ⟨hs, a0, hw, hy⟩
        · cases ex
      | _ => cases ex
    | ob t c l =>
      have et := tag j t _ ha rfl
      obtain ⟨a0, e0, _, _, l0⟩ := z
      cases e0
      cases s with
      | ob t2 c2 l2 =>
        dsimp only [outOne] at ex
        split at ex
        · rename_i e2
          cases ex
          obtain ⟨a1, e1, _, _, l1⟩ := q
          have b0 := l0.2 j et
          have b1 := l1.2 j e2
          rw [b0] at b1
          cases b1
          cases e1
          exact ⟨hs, a0, hw, hy⟩
        · cases ex
      | _ => cases ex
    | _ =>
      cases ex
      cases ox
  refine ⟨by rw [le, List.length_map, el], fun j x hx => ?_, R'.sub, R'.frm, R'.old, R'.new, fun p hp => ?_, fun j x w h1 h2 => ?_, List.pairwise_singleton _ _, fun j k x y w ne h1 h2 o1 o2 h3 h4 => ?_, fun p hp op j x h1 o1 h2 => ?_⟩
  · obtain ⟨a, w, s, ha, hw, hs, ex⟩ := key j x hx
    have n1 := R.nrf j a ha
    have n2 := R'.nrf j s hs
    cases a with
    | ow t d =>
      cases s with
      | ow t2 d2 =>
        dsimp only [outOne] at ex
        split at ex <;> cases ex
        rfl
      | _ => cases ex
    | ob t c l =>
      cases s with
      | ob t2 c2 l2 =>
        dsimp only [outOne] at ex
        split at ex <;> cases ex
        rfl
      | _ => cases ex
    | _ =>
      cases ex
      exact n1
  · rcases List.mem_cons.mp hp with rfl | hp
    · exact (R'.allT _ List.mem_cons_self).slots nr
    · simp at hp
  · by_cases ox : x.isOw = true
    · obtain ⟨hs, a0, hv, hσ⟩ := own j x h1 ox
      rw [List.getElem?_map, hv] at h2
      cases h2
      exact (R'.allS j x _ hs hσ).slots (by cases x <;> first | rfl | cases ox)
    · obtain ⟨a, y, s, ha, hy, hs, ex⟩ := key j x h1
      rw [List.getElem?_map, hy] at h2
      cases h2
      have n1 := R.nrf j a ha
      have z := R'.allT _ (List.mem_cons_of_mem _ (copies_get j a y ha hy))
      cases a with
      | ow t d =>
        cases s with
        | ow t2 d2 =>
          dsimp only [outOne] at ex
          split at ex <;> cases ex
          exact absurd rfl ox
        | _ => cases ex
      | ob t c l =>
        cases s with
        | ob t2 c2 l2 =>
          dsimp only [outOne] at ex
          split at ex <;> cases ex
          exact absurd rfl ox
        | _ => cases ex
      | rf i => cases n1
      | _ =>
        cases ex
        exact z.slots rfl
  · obtain ⟨hs, a0, hv, hσ⟩ := own j x h1 o1
    obtain ⟨hs', a1, hv', hσ'⟩ := own k y h2 o2
    rw [List.getElem?_map, hv] at h3
    rw [List.getElem?_map, hv'] at h4
    cases h3
    cases h4
    exact R'.disS j k x y _ ne hs hs' o1 o2 hσ hσ'
  · rcases List.mem_cons.mp hp with rfl | hp
    · obtain ⟨hs, a0, hv, hσ⟩ := own j x h1 o1
      rw [List.getElem?_map, hv] at h2
      refine R'.disX _ List.mem_cons_self op j x hs o1 ?_
      rw [hσ]
      exact h2
    · simp at hp
end
section
variable {P : Program} {w : World} {K : PySem.W.Frag} {mg : Str → Option Value} {base : Heap} {Γ : Ct} {x qual : Str} {st : Stmt} {f : Addr} {fd : FuncData} {N ps : List Str} {k : Nat} {g : Sf}
theorem spD_len {G : Gf} {m : Nat} (h : ∀ args a, G args = a → args.length ≠ m → a = .no) {vs : List V} {H : Hp} {Q : VK} {E : XK} (s : spD Γ G vs H Q E) : vs.length = m := by
  obtain ⟨S, F, _, _, ⟨M, R⟩, o⟩ := s
  have e := R.len
  rw [List.length_map] at e
  rw [← e]
  by_cases hm : S.length = m
  · exact hm
  · rw [h S _ rfl hm] at o
    exact o.elim
theorem mir_len {n m : Nat} : ∀ args a, mir n m g args = a → args.length ≠ m → a = .no := fun args a e h => by
  rw [← e]
  unfold mir
  rw [if_neg h]
theorem mir_ok {n m : Nat} {vs : List V} {H : Hp} {Q : VK} {E : XK} (h : spD Γ (mir n m g) vs H Q E) : ∃ F, tSt Γ F E g { nx := fun _ H' => Q .non H', rt := Q } (vs.map some ++ List.replicate (n - vs.length) none) H := by
  obtain ⟨S, F, hF, tag, ⟨M, R⟩, o⟩ := h
  refine ⟨F, copies S vs, _, fun p hp => ?_, ⟨M, R.entry (n := n)⟩, ?_⟩
  · obtain ⟨j, a, v, ha, hv, rfl⟩ := of_copies hp
    exact unOw_rf (R.nrf j a ha)
  · unfold mir at o
    split at o
    · refine o.bind.mono fun fl q => ?_
      cases fl with
      | nx S' =>
        obtain ⟨os, ho, k⟩ := q.bind.lift
        exact fun σ' H' ⟨M', R'⟩ => k .non H' ⟨M', R.exit tag (R'.push (d := .non) (v := .non) rfl) ho rfl⟩
      | rt r S' =>
        dsimp only at q
        split at q
        · exact q.elim
        · rename_i hr
          obtain ⟨os, ho, k⟩ := q.bind.lift
          exact fun v σ' H' ⟨M', R'⟩ => k v H' ⟨M', R.exit tag R' ho (by simpa using hr)⟩
      | bk S' => exact q.elim
      | ct S' => exact q.elim
    · exact o.elim
/-- THE RULE for a def: its body's mirror -/
theorem fnD (F : Fun K x qual st f fd) (S : FnScope N ps (defScope st))
    (hbody : ∀ (cdv : Value) (A : Around) (outer : List Env) (s : Shared) (H : Hp) (E : XK) (Fr : Fr), Room k (A.deeper (envOfC qual (defScope st) s.heap.objs.size f cdv)) → DSs (cxOf (L2.CX P w) P w K mg base N qual (defScope st) f cdv A outer s H E) Γ Fr E (defBody st) g) :
    FnOk P w K mg base (L2.CX P w) (k + 1) f fd ps (spD Γ (mir N.length ps.length g)) := by
  refine F.okX S (fun vs H Q E h => spD_len mir_len h) fun cdv A outer s H vs Q E hr h => ?_
  obtain ⟨Fr, q⟩ := mir_ok h
  exact ⟨_, hbody cdv A outer s H E Fr hr, q⟩
theorem fnDD {dvs : List V} {kws : List (Str × V)} {params : Arguments} {body : List Stmt} {scope : Scope} (F : FunD K x qual params body scope dvs kws f fd) (S : FnScope N ps scope)
    (hbody : ∀ (cdv : Value) (A : Around) (outer : List Env) (s : Shared) (H : Hp) (E : XK) (Fr : Fr), Room k (A.deeper (envOfC qual scope s.heap.objs.size f cdv)) → DSs (cxOf (L2.CX P w) P w K mg base N qual scope f cdv A outer s H E) Γ Fr E body g) :
    FnOk P w K mg base (L2.CX P w) (k + 1) f fd ps (spD Γ (mir N.length ps.length g)) := by
  refine F.ok S (fun vs H Q E h => spD_len mir_len h) fun cdv A outer s H vs Q E hr h => ?_
  obtain ⟨Fr, q⟩ := mir_ok h
  exact ⟨_, hbody cdv A outer s H E Fr hr, q⟩
/-- .. called where no repr is under way -/
theorem fnDG (F : Fun K x qual st f fd) (S : FnScope N ps (defScope st))
    (hbody : ∀ (cdv : Value) (A : Around) (outer : List Env) (s : Shared) (H : Hp) (E : XK) (Fr : Fr), Fu.RoomG k (A.deeper (envOfC qual (defScope st) s.heap.objs.size f cdv)) → DSs (cxOf (L2.CX P w) P w K mg base N qual (defScope st) f cdv A outer s H E) Γ Fr E (defBody st) g) :
    Fu.FnG P w K mg base (L2.CX P w) (k + 1) f fd ps (spD Γ (mir N.length ps.length g)) := by
  refine Fu.Fun.okG F S (fun vs H Q E h => spD_len mir_len h) fun cdv A outer s H vs Q E hr h => ?_
  obtain ⟨Fr, q⟩ := mir_ok h
  exact ⟨_, hbody cdv A outer s H E Fr hr, q⟩
end

/-! ### raise -/
section
variable {X : Cx} {Γ : Ct} {F : Fr} {W : WX} {E : XK} {e : Expr} {fa : Ef} {pos pos2 p : Pos}
def sRaise (c : Nat) (f : Ef) : Sf := fun S => (f S).bind fun a => (lift (fz a.2 a.1)).bind fun b => .er c (some b.1)
theorem RepM.err {M H : Hp} {T : List (Sl × Option V)} {S : List Sl} {σ : St} {c : Nat} {d : D} {v : V} {f : Str} {q : Addr} (R : RepM Γ F M T S σ H) (h : At Γ M d v) (hf : Γ.erf c = some f) (n : H q = none) : ErrAt Γ F c (some d) (some q) (upd H q (.xd [(f, v)])) := by
  refine ⟨M, fun b u e => by rw [upd_ne (ne_of_none (R.sub b u e) n)]; exact R.sub b u e, fun a o ha nb => ?_, R.old, R.new, ?_⟩
  · have := R.frm a o ha nb
    rw [upd_ne (ne_of_none this n)]
    exact this
  · rw [hf]
    exact ⟨q, v, rfl, R.fresh n, upd_same, R.sub.free n, h⟩
/-- an own error with one field, number c -/
structure ErrD (X : Cx) (Γ : Ct) (c : Nat) (x f : Str) : Prop where
  ex : ∃ (fI : Addr) (fd : FuncData), Fu.ErrC X.K X.mg x f (Γ.err c) fI ∧ FnOk X.prog X.w X.K X.mg X.base CX0 1 fI fd ["self", f] (Fu.spX (Γ.err c) f) ∧ Binds X.K fd ["self", f] []
  ef : Γ.erf c = some f
theorem ds_raise {c : Nat} {x f : Str} (I : ErrD X Γ c x f) (hc : X.calm = true) (hr : Room 2 X.A) (tk : Takes X (wx E)) (ha : DE X Γ F (wx E) e fa) (hg : Gl X x := by rfl) (hs : starEach [e] X.env = (false, eval e X.env) :: starEach [] X.env := by rfl)
    (hdb : (x == ("__debug__" : Str)) = false := by decide) (hpl : (backTo pos (starEach [] X.env)).any (·.1) = false := by rfl) : DS X Γ F E (.Raise (some (.Call (.Name x p) [e] [] pos)) none pos2) (sRaise c fa) := by
  obtain ⟨fI, fd, T, F1, hb⟩ := I.ex
  refine PS.mono (Fu.ps_raiseX (k := 1) hc T F1 hr hb pass0 tk ha (fun σ H Q Q' m h => tE_mono m h) hg hs hdb hpl) fun D σ H ⟨Tm, S, nr, rep, k⟩ => ⟨Tm, S, rep, Ok3.sl (k.bind.mono fun a q v H' ⟨M, r⟩ => ?_)⟩
  obtain ⟨b, hz, k1⟩ := q.bind.lift
  obtain ⟨M', hx, _, r2⟩ := r.fz hz
  exact ⟨v, rfl, fun d hd => k1 (some d) _ (r2.err hx I.ef hd)⟩
end

/-! ### what a for walks -/
section
variable {X : Cx} {Γ : Ct} {F : Fr} {W : WX} {e a b tg : Expr} {fa fb : Ef} {pos p : Pos}
def itOf : D → Option (List D)
  | .lst l => some l
  | .tup l => some l
  | _ => none
def lstOf : D → Option (List D)
  | .lst l => some l
  | _ => none
def tupOf : D → Option (List D)
  | .tup l => some l
  | _ => none
/-- for x in a list -/
def iLst (f : Ef) : If := fun S => (f S).bind fun a => (lift (fz a.2 a.1)).bind fun b => lift ((lstOf b.1).map fun l => (l, b.2))
def iTup (f : Ef) : If := fun S => (f S).bind fun a => (lift (fz a.2 a.1)).bind fun b => lift ((tupOf b.1).map fun l => (l, b.2))
theorem RepM.hold {M H : Hp} {T : List (Sl × Option V)} {S : List Sl} {σ : St} {q : Addr} {o : HO} (r : RepM Γ F M T S σ H) (h : M q = some o) : RepM Γ F M ((.hd o, some (.ref q)) :: T) S σ H := by
  refine ⟨r.len, r.nrf, r.sub, r.frm, r.old, r.new, fun p hp => ?_, r.allS, List.pairwise_cons.mpr ⟨fun z _ z1 => (nomatch z1), r.disT⟩, r.disS, fun p hp z => ?_⟩
  · rcases List.mem_cons.mp hp with rfl | hp
    · exact ⟨q, rfl, h⟩
    · exact r.allT p hp
  · rcases List.mem_cons.mp hp with rfl | hp
    · cases z
    · exact r.disX p hp z
theorem held2 {M : Hp} {d : D} {o : HO} {q : Addr} (h : ∀ z ∈ [(Sl.hd o, some (V.ref q)), (Sl.va d, some (V.ref q))], HeldAt Γ M z) : M q = some o ∧ At Γ M d (.ref q) := by
  obtain ⟨a, ea, h1⟩ := h _ List.mem_cons_self
  obtain ⟨x, ex, h2⟩ := h _ (List.mem_cons_of_mem _ List.mem_cons_self)
  cases ea
  cases ex
  exact ⟨h1, h2⟩
theorem walkD_list {xs : List V} {ds : List D} {q : Addr} (hl : xs.length = ds.length) : WalkD Γ [(.hd (.lst xs), some (.ref q)), (.va (.lst ds), some (.ref q))] ds (Itl X.K q) := by
  refine ⟨_, _, (by have := walk_list (K := X.K) (a := q) (xs := xs); rw [hl] at this; exact this), fun M1 H1 h s => SqL.of (s _ _ (held2 h).1), fun i H1 M1 x H2 hi h s y => ?_⟩
  obtain ⟨rfl, hx⟩ := y
  obtain ⟨h1, a, xs', ea, h2, hs⟩ := held2 h
  cases ea
  rw [h1] at h2
  cases h2
  obtain ⟨d, hd⟩ : ∃ d, ds[i]? = some d := ⟨_, List.getElem?_eq_getElem hi⟩
  obtain ⟨x', hx', hat⟩ := hs.get hd
  rw [hx] at hx'
  cases hx'
  exact ⟨M1, d, Grow.refl s, hd, hat⟩
theorem walkD_tup {xs : List V} {ds : List D} {q : Addr} (hl : xs.length = ds.length) : WalkD Γ [(.hd (.tup xs), some (.ref q)), (.va (.tup ds), some (.ref q))] ds (Itt X.K q) := by
  refine ⟨_, _, (by have := walk_tup (K := X.K) (a := q) (xs := xs); rw [hl] at this; exact this), fun M1 H1 h s => SqT.of (s _ _ (held2 h).1), fun i H1 M1 x H2 hi h s y => ?_⟩
  obtain ⟨rfl, hx⟩ := y
  obtain ⟨h1, a, xs', ea, h2, hs⟩ := held2 h
  cases ea
  rw [h1] at h2
  cases h2
  obtain ⟨d, hd⟩ : ∃ d, ds[i]? = some d := ⟨_, List.getElem?_eq_getElem hi⟩
  obtain ⟨x', hx', hat⟩ := hs.get hd
  rw [hx] at hx'
  cases hx'
  exact ⟨M1, d, Grow.refl s, hd, hat⟩
theorem two_held {o : HO} {d : D} {v v' : Option V} : ∀ q ∈ [(Sl.hd o, v), (Sl.va d, v')], held q.1 = true := fun q hq => by
  rcases List.mem_cons.mp hq with rfl | hq
  · rfl
  · rcases List.mem_cons.mp hq with rfl | hq
    · rfl
    · simp at hq
theorem di_list (h : DE X Γ F W e fa) : DI X Γ F W tg e (iLst fa) := PI.mono (pi_list h) fun σ H R ⟨T, S, rep, k⟩ => ⟨T, S, rep, k.bind.mono fun a q v H' ⟨M, r⟩ => by
  obtain ⟨b, hb, k1⟩ := q.bind.lift
  obtain ⟨z, hz, k2⟩ := k1.lift
  obtain ⟨M', hx, _, r2⟩ := r.fz hb
  cases e1 : b.1 with
  | lst l =>
    rw [e1] at hz hx r2
    cases hz
    obtain ⟨p, xs, rfl, hp, hs⟩ := id hx
    exact ⟨p, rfl, ⟨xs, SqL.of (r2.sub _ _ hp)⟩, k2 _ H' M' [(.hd (.lst xs), some (.ref p)), (.va (.lst l), some (.ref p))] two_held (r2.hold hp) (walkD_list hs.len)⟩
  | _ =>
    rw [e1] at hz
    cases hz⟩
theorem di_tup (h : DE X Γ F W e fa) : DI X Γ F W tg e (iTup fa) := PI.mono (pi_tup h) fun σ H R ⟨T, S, rep, k⟩ => ⟨T, S, rep, k.bind.mono fun a q v H' ⟨M, r⟩ => by
  obtain ⟨b, hb, k1⟩ := q.bind.lift
  obtain ⟨z, hz, k2⟩ := k1.lift
  obtain ⟨M', hx, _, r2⟩ := r.fz hb
  cases e1 : b.1 with
  | tup l =>
    rw [e1] at hz hx r2
    cases hz
    obtain ⟨p, xs, rfl, hp, hs⟩ := id hx
    exact ⟨p, rfl, ⟨xs, SqT.of (r2.sub _ _ hp)⟩, k2 _ H' M' [(.hd (.tup xs), some (.ref p)), (.va (.tup l), some (.ref p))] two_held (r2.hold hp) (walkD_tup hs.len)⟩
  | _ =>
    rw [e1] at hz
    cases hz⟩
def rng (lo : Int) (n : Nat) : List D := (List.range n).map fun (i : Nat) => .int (lo + (i : Int))
def iR1 (g : Af) : If := fun S => (g S).bind fun a => match a.1 with
  | [.int j] => if j.natAbs ≤ 1000000 then .ok (rng 0 j.toNat, a.2) else .no
  | _ => .no
def iR2 (g : Af) : If := fun S => (g S).bind fun a => match a.1 with
  | [.int i, .int j] => if i.natAbs ≤ 1000000 ∧ j.natAbs ≤ 1000000 then .ok (rng i (j - i).toNat, a.2) else .no
  | _ => .no
theorem walkD_range {lo : Int} {n : Nat} : WalkD Γ [] (rng lo n) (Itr lo n) := by
  have hl : (rng lo n).length = n := by simp [rng]
  refine ⟨_, _, (by have := walk_range (lo := lo) (n := n); rw [hl]; exact this), fun _ _ _ _ => trivial, fun i H1 M1 x H2 hi h s y => ?_⟩
  obtain ⟨rfl, rfl⟩ := y
  rw [hl] at hi
  exact ⟨M1, .int (lo + i), Grow.refl s, by simp [rng, hi], rfl⟩
theorem di_range1 {g : Af} (hg : Gl X "range") (hm : X.mg "range" = none) (ha : DA X Γ F W [a] g) (hs : starEach [a] X.env = [(false, eval a X.env)] := by rfl) : DI X Γ F W tg (.Call (.Name "range" p) [a] [] pos) (iR1 g) := PI.mono (pi_range1 hg hm ha hs) fun σ H R ⟨T, S, rep, k⟩ => ⟨T, S, rep, k.bind.mono fun z q vs H' M r hs => by
  split at q
  · rename_i j e1
    split at q
    · rename_i hj
      rw [e1] at hs
      obtain ⟨v, vr, rfl, hv, hs⟩ := hs
      obtain rfl := hs
      obtain rfl := hv
      exact ⟨j, rfl, by omega, by omega, q _ H' M [] (fun _ hq => by simp at hq) r walkD_range⟩
    · exact q.elim
  · exact q.elim⟩
theorem di_range2 {g : Af} (hg : Gl X "range") (hm : X.mg "range" = none) (ha : DA X Γ F W [a, b] g) (hs : starEach [a, b] X.env = [(false, eval a X.env), (false, eval b X.env)] := by rfl) (hs2 : starEach [b] X.env = [(false, eval b X.env)] := by rfl) :
    DI X Γ F W tg (.Call (.Name "range" p) [a, b] [] pos) (iR2 g) := PI.mono (pi_range2 hg hm ha hs hs2) fun σ H R ⟨T, S, rep, k⟩ => ⟨T, S, rep, k.bind.mono fun z q vs H' M r hs => by
  split at q
  · rename_i i j e1
    split at q
    · rename_i hj
      rw [e1] at hs
      obtain ⟨v, vr, rfl, hv, hs⟩ := hs
      obtain ⟨w, wr, rfl, hw, hs⟩ := hs
      obtain rfl := hs
      obtain rfl := hv
      obtain rfl := hw
      exact ⟨i, j, rfl, ⟨by omega, by omega, by omega, by omega⟩, q _ H' M [] (fun _ hq => by simp at hq) r walkD_range⟩
    · exact q.elim
  · exact q.elim⟩
end
end Mi

/-! The mirror layer: list comprehensions; what an owned container becomes. -/
namespace Mi
open PySem L2
open PyProof.Rows hiding St

section
variable {Γ : Ct} {F : Fr} {M H : Hp} {T : List (Sl × Option V)} {S : List Sl} {σ σ' : St}
/-- an owned object is written -/
theorem upd_sub {a : Addr} {o : HO} (s : Same M H) (n : M a = none) : Same M (upd H a o) := fun b u e => by
  rw [upd_ne (ne_of_none e n)]
  exact s b u e
theorem SlAt.wr {a : Addr} {o : HO} {s : Sl} {v : Option V} (h : SlAt Γ F σ H M s v) (d : s.isOw = true → v ≠ some (.ref a)) : SlAt Γ F σ (upd H a o) M s v :=
  h.mv (Same.refl M) fun b ob hv hb _ => ⟨hb, fun u hu => by rw [upd_ne fun z => d ob (by rw [hv, z])]; exact hu⟩
theorem Lent.notF {t : Nat} {a : Addr} (l : Lent F t a) {b : Addr} {o : HO} (hb : F.H b = some o) (nb : ∀ i, F.B i ≠ some b) : b ≠ a := fun z => by
  subst z
  rcases l.1 with z | ⟨i, z⟩
  · rw [hb] at z
    cases z
  · exact nb i z
/-- .. of the second on the pile -/
theorem RepM.mutT {q : Sl × Option V} {s s' : Sl} {a : Addr} {o : HO} (R : RepM Γ F M (q :: (s, some (.ref a)) :: T) S σ H) (os : s.isOw = true) (nq : q.1.isOw = false) (h' : SlAt Γ F σ (upd H a o) M s' (some (.ref a))) (ob : s'.isOw = true) : RepM Γ F M ((s', some (.ref a)) :: T) S σ (upd H a o) := by
  have d1 := List.pairwise_cons.mp R.disT
  have d2 := List.pairwise_cons.mp d1.2
  have z := R.allT _ (List.mem_cons_of_mem _ List.mem_cons_self)
  obtain ⟨a', ea, n, _⟩ := z.owned os
  cases ea
  have ln : ∃ t, Lent F t a := by
    cases s with
    | ow t d =>
      obtain ⟨b, eb, _, _, l⟩ := z
      cases eb
      exact ⟨t, l⟩
    | ob t c l =>
      obtain ⟨b, eb, _, _, l⟩ := z
      cases eb
      exact ⟨t, l⟩
    | _ => cases os
  obtain ⟨t, ln⟩ := ln
  refine ⟨R.len, R.nrf, upd_sub R.sub n, fun b u hb nb => ?_, R.old, R.new, fun p hp => ?_, fun i s0 w h1 h2 => (R.allS i s0 w h1 h2).wr fun o0 e => R.disX _ (List.mem_cons_of_mem _ List.mem_cons_self) os i s0 h1 o0 (by rw [h2, e]), List.pairwise_cons.mpr ⟨fun p hp o1 o2 => d2.1 p hp os o2, d2.2⟩, R.disS, fun p hp op => ?_⟩
  · rw [upd_ne (ln.notF hb nb)]
    exact R.frm b u hb nb
  · rcases List.mem_cons.mp hp with rfl | hp
    · exact h'
    · exact (R.allT p (List.mem_cons_of_mem _ (List.mem_cons_of_mem _ hp))).wr fun o0 e => d2.1 p hp os o0 e.symm
  · rcases List.mem_cons.mp hp with rfl | hp
    · exact R.disX (s, some (.ref a)) (List.mem_cons_of_mem _ List.mem_cons_self) os
    · exact R.disX p (List.mem_cons_of_mem _ (List.mem_cons_of_mem _ hp)) op
/-- .. of slot i -/
theorem RepM.mutS {i : Nat} {s s' : Sl} {a : Addr} {o : HO} (R : RepM Γ F M T S σ H) (hs : S[i]? = some s) (os : s.isOw = true) (hσ : σ[i]? = some (some (.ref a))) (h' : SlAt Γ F σ (upd H a o) M s' (some (.ref a))) (ob : s'.isOw = true) : RepM Γ F M T (S.set i s') σ (upd H a o) := by
  have z := R.allS i s _ hs hσ
  obtain ⟨a', ea, n, _⟩ := z.owned os
  cases ea
  have ln : ∃ t, Lent F t a := by
    cases s with
    | ow t d =>
      obtain ⟨b, eb, _, _, l⟩ := z
      cases eb
      exact ⟨t, l⟩
    | ob t c l =>
      obtain ⟨b, eb, _, _, l⟩ := z
      cases eb
      exact ⟨t, l⟩
    | _ => cases os
  obtain ⟨t, ln⟩ := ln
  have hi : i < S.length := (List.getElem?_eq_some_iff.mp hs).1
  have get : ∀ j : Nat, (S.set i s')[j]? = if i = j then some s' else S[j]? := fun j => by
    by_cases e : i = j
    · subst e
      rw [if_pos rfl, List.getElem?_set_self hi]
    · rw [if_neg e, List.getElem?_set_ne e]
  refine ⟨by rw [List.length_set]; exact R.len, fun j s0 hj => ?_, upd_sub R.sub n, fun b u hb nb => ?_, R.old, R.new, fun p hp => (R.allT p hp).wr fun o0 e => R.disX p hp o0 i s hs os (by rw [e]; exact hσ), fun j s0 w h1 h2 => ?_, R.disT, fun j k s0 s1 w ne h1 h2 o1 o2 h3 h4 => ?_, fun p hp op j s0 h1 o1 h2 => ?_⟩
  · rw [get] at hj
    split at hj
    · cases hj
      cases s' <;> first | rfl | cases ob
    · exact R.nrf j s0 hj
  · rw [upd_ne (ln.notF hb nb)]
    exact R.frm b u hb nb
  · rw [get] at h1
    by_cases e : i = j
    · subst e
      rw [if_pos rfl] at h1
      cases h1
      rw [hσ] at h2
      cases h2
      exact h'
    · rw [if_neg e] at h1
      exact (R.allS j s0 w h1 h2).wr fun o0 e2 => R.disS i j s s0 _ e hs h1 os o0 hσ (by rw [h2, e2])
  · rw [get] at h1 h2
    by_cases e : i = j
    · subst e
      rw [if_neg ne] at h2
      exact R.disS i k s s1 w ne hs h2 os o2 h3 h4
    · rw [if_neg e] at h1
      by_cases e' : i = k
      · subst e'
        exact R.disS j i s0 s w ne h1 hs o1 os h3 h4
      · rw [if_neg e'] at h2
        exact R.disS j k s0 s1 w ne h1 h2 o1 o2 h3 h4
  · rw [get] at h1
    by_cases e : i = j
    · subst e
      exact R.disX p hp op i s hs os h2
    · rw [if_neg e] at h1
      exact R.disX p hp op j s0 h1 o1 h2
/-! slots forgotten -/
def wipeS (S : List Sl) : List Nat → List Sl
  | [] => S
  | v :: vs => (wipeS S vs).set v .no
theorem wipeS_len : ∀ vs : List Nat, (wipeS S vs).length = S.length
  | [] => rfl
  | v :: vs => by
    unfold wipeS
    rw [List.length_set]
    exact wipeS_len vs
theorem wipeS_get : ∀ {vs : List Nat} {i : Nat} {s : Sl}, (wipeS S vs)[i]? = some s → s = .no ∨ (i ∉ vs ∧ S[i]? = some s)
  | [], i, s, h => .inr ⟨by simp, h⟩
  | v :: vs, i, s, h => by
    unfold wipeS at h
    by_cases e : v = i
    · subst e
      by_cases hv : v < (wipeS S vs).length
      · rw [List.getElem?_set_self hv] at h
        cases h
        exact .inl rfl
      · rw [List.getElem?_eq_none (by rw [List.length_set]; omega)] at h
        cases h
    · rw [List.getElem?_set_ne e] at h
      rcases wipeS_get h with z | ⟨z1, z2⟩
      · exact .inl z
      · exact .inr ⟨fun q => (List.mem_cons.mp q).elim (fun q => e q.symm) z1, z2⟩
theorem RepM.agree {vs : List Nat} (R : RepM Γ F M T S σ H) (nr : nrT T) (ag : Agree vs σ σ') : RepM Γ F M T (wipeS S vs) σ' H := by
  have key : ∀ {i : Nat} {s : Sl} {w : Option V}, (wipeS S vs)[i]? = some s → σ'[i]? = some w → s = .no ∨ (S[i]? = some s ∧ σ[i]? = some w) := fun {i s w} h1 h2 => by
    rcases wipeS_get h1 with z | ⟨z1, z2⟩
    · exact .inl z
    · exact .inr ⟨z2, by rw [ag.2 i z1]; exact h2⟩
  refine ⟨by rw [wipeS_len, R.len, ag.1], fun i s hs => ?_, R.sub, R.frm, R.old, R.new, fun p hp => (R.allT p hp).slots (nr p hp), fun i s w h1 h2 => ?_, R.disT, fun i j s s' w ne h1 h2 o1 o2 h3 h4 => ?_, fun p hp op i s h1 o1 h2 => ?_⟩
  · rcases wipeS_get hs with rfl | ⟨_, z⟩
    · rfl
    · exact R.nrf i s z
  · rcases key h1 h2 with rfl | ⟨z1, z2⟩
    · trivial
    · exact (R.allS i s w z1 z2).slots (R.nrf i s z1)
  · rcases key h1 h3 with rfl | ⟨z1, z2⟩
    · cases o1
    · rcases key h2 h4 with rfl | ⟨y1, y2⟩
      · cases o2
      · exact R.disS i j s s' w ne z1 y1 o1 o2 z2 y2
  · rcases key h1 h2 with rfl | ⟨z1, z2⟩
    · cases o1
    · exact R.disX p hp op i s z1 o1 z2
theorem agree_wipe {vs : List Nat} : Agree vs σ (wipe σ vs) := ⟨(wipe_length σ vs).symm, fun i hi => (wipe_out hi).symm⟩
theorem Agree.symm {vs : List Nat} (h : Agree vs σ σ') : Agree vs σ' σ := ⟨h.1.symm, fun i hi => (h.2 i hi).symm⟩
theorem wipe_in {i : Nat} : ∀ {vs : List Nat} {σ : St}, i ∈ vs → i < σ.length → (wipe σ vs)[i]? = some none
  | [], _, h, _ => by simp at h
  | v :: vs, σ, h, hl => by
    unfold wipe
    by_cases e : v = i
    · subst e
      rw [List.getElem?_set_self (by rw [wipe_length]; exact hl)]
    · rw [List.getElem?_set_ne e]
      exact wipe_in ((List.mem_cons.mp h).resolve_left fun q => e q.symm) hl
theorem wipe_agree {vs : List Nat} (h : Agree vs σ σ') : wipe σ' vs = wipe σ vs := by
  refine List.ext_getElem? fun i => ?_
  by_cases hi : i ∈ vs
  · by_cases hl : i < σ.length
    · rw [wipe_in hi hl, wipe_in hi (by rw [← h.1]; exact hl)]
    · rw [List.getElem?_eq_none (by rw [wipe_length, ← h.1]; omega), List.getElem?_eq_none (by rw [wipe_length]; omega)]
  · rw [wipe_out hi, wipe_out hi, h.2 i hi]
theorem RepM.unwipe {vs : List Nat} (R : RepM Γ F M T S (wipe σ vs) H) (nr : nrT T) : RepM Γ F M T S σ H := by
  have key : ∀ {i : Nat} {s : Sl} {w : Option V}, S[i]? = some s → σ[i]? = some w → s = .no ∨ (wipe σ vs)[i]? = some w := fun {i s w} h1 h2 => by
    by_cases hi : i ∈ vs
    · have hl : i < σ.length := (List.getElem?_eq_some_iff.mp h2).1
      have z := R.allS i s none h1 (wipe_in hi hl)
      have n := R.nrf i s h1
      cases s with
      | no => exact .inl rfl
      | rf j => cases n
      | va d =>
        obtain ⟨x, e, _⟩ := z
        cases e
      | ow t d =>
        obtain ⟨x, e, _⟩ := z
        cases e
      | ob t c l =>
        obtain ⟨x, e, _⟩ := z
        cases e
      | sc ns =>
        obtain ⟨x, e, _⟩ := z
        cases e
      | hd o =>
        obtain ⟨x, e, _⟩ := z
        cases e
    · exact .inr (by rw [wipe_out hi]; exact h2)
  refine ⟨by rw [R.len, wipe_length], R.nrf, R.sub, R.frm, R.old, R.new, fun p hp => (R.allT p hp).slots (nr p hp), fun i s w h1 h2 => ?_, R.disT, fun i j s s' w ne h1 h2 o1 o2 h3 h4 => ?_, fun p hp op i s h1 o1 h2 => ?_⟩
  · rcases key h1 h2 with rfl | z
    · trivial
    · exact (R.allS i s w h1 z).slots (R.nrf i s h1)
  · rcases key h1 h3 with rfl | z
    · cases o1
    · rcases key h2 h4 with rfl | y
      · cases o2
      · exact R.disS i j s s' w ne h1 h2 o1 o2 z y
  · rcases key h1 h2 with rfl | z
    · cases o1
    · exact R.disX p hp op i s h1 o1 z
/-! references to slots are put aside while the slots change -/
def deRf : Sl × Option V → Sl × Option V
  | (.rf _, v) => (.no, v)
  | p => p
theorem deRf_ow (p : Sl × Option V) : (deRf p).1.isOw = p.1.isOw ∧ (deRf p).2 = p.2 := by
  obtain ⟨s, v⟩ := p
  cases s <;> exact ⟨rfl, rfl⟩
theorem deRf_nr : nrT (T.map deRf) := fun p hp => by
  obtain ⟨q, hq, rfl⟩ := List.mem_map.mp hp
  obtain ⟨s, v⟩ := q
  cases s <;> rfl
theorem RepM.aside {hs : List (Sl × Option V)} (R : RepM Γ F M (hs ++ T) S σ H) : RepM Γ F M (hs ++ T.map deRf) S σ H := by
  refine ⟨R.len, R.nrf, R.sub, R.frm, R.old, R.new, fun p hp => ?_, R.allS, ?_, R.disS, fun p hp op => ?_⟩
  · rcases List.mem_append.mp hp with z | z
    · exact R.allT p (List.mem_append_left _ z)
    · obtain ⟨q, hq, rfl⟩ := List.mem_map.mp z
      have y := R.allT q (List.mem_append_right _ hq)
      obtain ⟨s, v⟩ := q
      cases s <;> first | exact y | trivial
  · have d := List.pairwise_append.mp R.disT
    refine List.pairwise_append.mpr ⟨d.1, List.pairwise_map.mpr (d.2.1.imp fun {a b} h => ?_), fun a ha b hb => ?_⟩
    · intro o1 o2
      rw [(deRf_ow a).1] at o1
      rw [(deRf_ow b).1] at o2
      rw [(deRf_ow a).2, (deRf_ow b).2]
      exact h o1 o2
    · obtain ⟨q, hq, rfl⟩ := List.mem_map.mp hb
      intro o1 o2
      rw [(deRf_ow q).1] at o2
      rw [(deRf_ow q).2]
      exact d.2.2 a ha q hq o1 o2
  · rcases List.mem_append.mp hp with z | z
    · exact R.disX p (List.mem_append_left _ z) op
    · obtain ⟨q, hq, rfl⟩ := List.mem_map.mp z
      rw [(deRf_ow q).1] at op
      rw [(deRf_ow q).2]
      exact R.disX q (List.mem_append_right _ hq) op
theorem RepM.again {q : Sl × Option V} {M0 H0 : Hp} {S0 : List Sl} (R0 : RepM Γ F M0 T S0 σ H0) (R : RepM Γ F M (q :: T.map deRf) S σ H) : RepM Γ F M (q :: T) S σ H := by
  have d := List.pairwise_cons.mp R.disT
  refine ⟨R.len, R.nrf, R.sub, R.frm, R.old, R.new, fun p hp => ?_, R.allS, List.pairwise_cons.mpr ⟨fun p hp o1 o2 => ?_, (List.pairwise_map.mp d.2).imp fun {a b} h o1 o2 => ?_⟩, R.disS, fun p hp op => ?_⟩
  · rcases List.mem_cons.mp hp with rfl | hp
    · exact R.allT _ List.mem_cons_self
    · have y := R.allT _ (List.mem_cons_of_mem _ (List.mem_map_of_mem (f := deRf) hp))
      have y0 := R0.allT p hp
      obtain ⟨s, v⟩ := p
      cases s with
      | rf i => exact y0
      | _ => exact y
  · have := d.1 _ (List.mem_map_of_mem (f := deRf) hp) o1
    rw [(deRf_ow p).1, (deRf_ow p).2] at this
    exact this o2
  · have := h
    unfold Dj at this
    rw [(deRf_ow a).1, (deRf_ow b).1, (deRf_ow a).2, (deRf_ow b).2] at this
    exact this o1 o2
  · rcases List.mem_cons.mp hp with rfl | hp
    · exact R.disX _ List.mem_cons_self op
    · have := R.disX _ (List.mem_cons_of_mem _ (List.mem_map_of_mem (f := deRf) hp))
      rw [(deRf_ow p).1, (deRf_ow p).2] at this
      exact this op
end

/-! ### [e for x in it if t] -/
def loopC (vs : List Nat) (b : Bf) (tt : Tf) (fe : Ef) : List D → List D → List Sl → Rs (List D × List Sl)
  | [], acc, S => .ok (acc, S)
  | d :: l, acc, S => (lift (b d S)).bind fun S1 => (tt S1).bind fun c => if c.1 = true then (fe c.2).bind fun r => (lift (fz r.2 r.1)).bind fun z => if acc.length < 100000 then loopC vs b tt fe l (acc ++ [z.1]) (wipeS z.2 vs) else .no else loopC vs b tt fe l acc (wipeS c.2 vs)
def fLc (vs : List Nat) (g : If) (b : Bf) (tt : Tf) (fe : Ef) : Ef := fun S => (g S).bind fun a => (noEr (loopC vs b tt fe a.1 [] (wipeS a.2 vs))).bind fun z => .ok (.ow 0 (.lst z.1), z.2)
def gYes : Tf := fun S => .ok (true, S)
abbrev WF : WX := fun _ _ _ _ => False
section
variable {X : Cx} {Γ : Ct} {F : Fr} {W : WX}
theorem lc_le {vs is : List Nat} {g : If} {b : Bf} {tt : Tf} {fe : Ef} (hi : ∀ i ∈ is, i ∈ vs) : ∀ σ H Q, tE Γ F W (fLc vs g b tt fe) σ H Q → tLc (tI Γ F W g) (tGd Γ F is b) (tT Γ F WF tt) (tE Γ F WF fe) vs σ H Q := by
  rintro σ H Q ⟨T, S, ⟨M0, R0⟩, h⟩
  refine ⟨T, S, ⟨M0, R0⟩, h.bind.mono fun a h1 J H1 M hs hh R w D hD => ?_⟩
  obtain ⟨G, Y, wk, hG, hY⟩ := w
  have k1 : Ok3 Γ F WF [] (loopC vs b tt fe a.1 [] (wipeS a.2 vs)) fun z => ∀ v H', Rep Γ F ((.ow 0 (.lst z.1), some v) :: T) z.2 σ H' → Q v H' := by
    have := h1.bind
    cases e : loopC vs b tt fe a.1 [] (wipeS a.2 vs) with
    | ok z =>
      rw [e] at this
      exact this
    | er c d =>
      rw [e] at this
      exact this.elim
    | no =>
      rw [e] at this
      exact this.elim
  have nrh : nrT (hs ++ T.map deRf) := fun p hp => by
    rcases List.mem_append.mp hp with z | z
    · have y := hh p z
      obtain ⟨s, v⟩ := p
      cases s <;> first | rfl | cases y
    · exact deRf_nr p z
  have nrq : ∀ (l : List Mi.D), nrT ((.ow 0 (.lst l), some (V.ref D)) :: (hs ++ T.map deRf)) := fun l p hp => by
    rcases List.mem_cons.mp hp with rfl | hp
    · rfl
    · exact nrh p hp
  have Rtop : ∀ {l : List Mi.D} {S' : List Sl} {σ' : St} {H' M' : Hp}, RepM Γ F M' ((.ow 0 (.lst l), some (V.ref D)) :: (hs ++ T.map deRf)) S' σ' H' → RepM Γ F M' (hs ++ T.map deRf) S' σ' H' := fun R => R.drop
  refine lc_it wk (fun i H' => ∃ (S' : List Sl) (acc : List Mi.D), Rep Γ F ((.ow 0 (.lst acc), some (V.ref D)) :: (hs ++ T.map deRf)) S' (wipe σ vs) H' ∧
    Ok3 Γ F WF [] (loopC vs b tt fe (a.1.drop i) acc S') fun z => ∀ v H', Rep Γ F ((.ow 0 (.lst z.1), some v) :: T) z.2 σ H' → Q v H') ?_ ?_ ?_ ?_
  · refine ⟨wipeS a.2 vs, [], ⟨M, ?_⟩, k1⟩
    have R1 : RepM Γ F M (hs ++ T.map deRf) (wipeS a.2 vs) (wipe σ vs) H1 := R.aside.agree nrh agree_wipe
    exact R1.pushO (s := .ow 0 (.lst [])) rfl ⟨D, rfl, R1.sub.free hD, ⟨[], upd_same, rfl⟩, R1.fresh hD, fun i z => nomatch z⟩ hD (Fu.Same.new hD) (upd_sub R1.sub (R1.sub.free hD))
  · rintro i H' _ ⟨S', acc, ⟨M', R'⟩, _⟩
    exact hG M' H' (held_at (Rtop R') hh) R'.sub
  · rintro i x H' H2 hi' ⟨S', acc, ⟨M', R'⟩, k⟩ y
    obtain ⟨M2, d, gr, hd, hx⟩ := hY i H' M' x H2 hi' (held_at (Rtop R') hh) R'.sub y
    have ed : a.1.drop i = d :: a.1.drop (i + 1) := by
      rw [List.drop_eq_getElem_cons hi']
      rw [List.getElem?_eq_getElem hi'] at hd
      cases hd
      rfl
    rw [ed] at k
    obtain ⟨S1, hb1, k2⟩ := k.bind.lift
    refine ⟨_, S', d, M2, S1, nrq acc, R'.grow gr, hx, hb1, fun σ2 H3 rep3 ag => ?_⟩
    have ag' : Agree vs (wipe σ vs) σ2 := ag.mono hi
    have agσ : Agree vs σ σ2 := agree_wipe.trans ag'
    refine ⟨wipe_agree agσ, _, S1, rep3, Ok3.sl (E := fun _ _ _ => False) (k2.bind.mono fun c q H4 ⟨M4, r4⟩ => ?_)⟩
    cases hc : c.1 with
    | false =>
      rw [hc, if_neg Bool.false_ne_true] at q
      rw [if_neg Bool.false_ne_true]
      exact ⟨wipeS c.2 vs, acc, ⟨M4, r4.agree (nrq acc) ag'.symm⟩, q⟩
    | true =>
      rw [hc, if_pos rfl] at q
      rw [if_pos rfl]
      refine ⟨_, c.2, ⟨M4, r4⟩, Ok3.sl (E := fun _ _ _ => False) (q.bind.mono fun r q2 y H5 ⟨M5, r5⟩ => ?_)⟩
      obtain ⟨z, hz, q3⟩ := q2.bind.lift
      obtain ⟨M6, hy, _, r6⟩ := r5.fz hz
      split at q3
      · rename_i hlen
        obtain ⟨D', eD, n6, ⟨xs, hxs, hat⟩, ln⟩ := r6.allT _ (List.mem_cons_of_mem _ List.mem_cons_self)
        cases eD
        refine ⟨xs, hxs, by rw [hat.len]; exact Evl.sz_lt hlen, wipeS z.2 vs, acc ++ [z.1], ⟨M6, ?_⟩, q3⟩
        have r7 := r6.mutT (o := .lst (xs ++ [y])) (s' := .ow 0 (.lst (acc ++ [z.1]))) rfl rfl ⟨D, rfl, n6, ⟨_, upd_same, hat.append (Ats.one hy)⟩, ln⟩ rfl
        exact r7.agree (nrq _) ag'.symm
      · exact q3.elim
  · rintro H' ⟨S', acc, ⟨M', R'⟩, k⟩
    rw [List.drop_length] at k
    refine k (.ref D) H' ⟨M', ?_⟩
    have RT : RepM Γ F M' ((.ow 0 (.lst acc), some (V.ref D)) :: T.map deRf) S' (wipe σ vs) H' := RepM.tops (hs := hs) R'
    refine RepM.again R0 (RT.unwipe fun p hp => ?_)
    rcases List.mem_cons.mp hp with rfl | hp
    · rfl
    · exact deRf_nr p hp
variable {E : XK} {elt tg iter : Expr} {ifs : List Expr} {scope : Scope} {own : List (Str × Nat)} {pos spos py : Pos} {g : If} {b : Bf} {tt : Tf} {fe : Ef} {is : List Nat}
def DTs (X : Cx) (Γ : Ct) (F : Fr) (W : WX) (ifs : List Expr) (tt : Tf) : Prop := PTs X ifs (tT Γ F W tt)
theorem dts_nil : DTs X Γ F W [] gYes := ⟨fun pins s σ H Q I ⟨T, S, rep, k⟩ => (pts_nil (X := X)).run pins s σ H Q I (k H rep)⟩
theorem dts_one {c : Expr} (h : DT X Γ F W c tt) : DTs X Γ F W [c] tt := pts_one h
theorem de_lc (hc : X.calm = true) (hN : X.N.Nodup) (hi : DI X Γ F W tg iter g) (ok : BlkOk X.N X.env.scope scope own) (hsub : ∀ i ∈ is, i ∈ own.map (·.2))
    (hg : ∀ (s : Shared) (H : Hp) (C : Addr) (cl : List (Str × Addr)) (fp : List Addr), DG (X.blk s H scope (compEnvC scope cl C X.env) fp) Γ F tg is b) (ht : ∀ (s : Shared) (H : Hp) (C : Addr) (cl : List (Str × Addr)) (fp : List Addr), DTs (X.blk s H scope (compEnvC scope cl C X.env) fp) Γ F WF ifs tt)
    (he : ∀ (s : Shared) (H : Hp) (C : Addr) (cl : List (Str × Addr)) (fp : List Addr), DE (X.blk s H scope (compEnvC scope cl C X.env) fp) Γ F WF elt fe) (hs : ∀ x, foldedSetIterable iter X.env x = pure x := by intro _; rfl) :
    DE X Γ F W (.ListComp elt [⟨tg, iter, ifs, 0⟩] scope pos) (fLc (own.map (·.2)) g b tt fe) := PE.mono (pe_lc hc hN hi ok hg ht he hs) (lc_le hsub)
theorem ds_setLc {i : Nat} {y : Str} (hc : X.calm = true) (hN : X.N.Nodup) (hy : X.N[i]? = some y) (hyl : X.env.scope.names.lookup y = some .local) (hsw : swapsWith (.ListComp elt [⟨tg, iter, ifs, 0⟩] scope pos) (some (.Name y py)) spos.line X.env = pure true)
    (hi : DI X Γ F (wx E) tg iter g) (ok : BlkOk X.N X.env.scope scope own) (hsub : ∀ i ∈ is, i ∈ own.map (·.2))
    (hg : ∀ (s : Shared) (H : Hp) (C : Addr) (cl : List (Str × Addr)) (fp : List Addr), DG (X.blk s H scope (compEnvC scope cl C X.env) fp) Γ F tg is b) (ht : ∀ (s : Shared) (H : Hp) (C : Addr) (cl : List (Str × Addr)) (fp : List Addr), DTs (X.blk s H scope (compEnvC scope cl C X.env) fp) Γ F WF ifs tt)
    (he : ∀ (s : Shared) (H : Hp) (C : Addr) (cl : List (Str × Addr)) (fp : List Addr), DE (X.blk s H scope (compEnvC scope cl C X.env) fp) Γ F WF elt fe) (hs : ∀ x, foldedSetIterable iter X.env x = pure x := by intro _; rfl) :
    DS X Γ F E (.Assign [.Name y py] (.ListComp elt [⟨tg, iter, ifs, 0⟩] scope pos) spos) (sSet i (fLc (own.map (·.2)) g b tt fe)) := PS.mono (ps_setLc hc hN hy hyl hsw hi ok hg ht he hs) fun D σ H ⟨T, S, nr, rep, k⟩ => lc_le hsub σ H _ ⟨T, S, rep, Ok3.sl (k.bind.mono fun a q v H' ⟨M, r⟩ => by
  obtain ⟨b, hb, k⟩ := q.bind.lift
  obtain ⟨M', r', nrf, _⟩ := r.keepS (r' := b.1) (S' := b.2) hb
  split at k
  · exact k _ _ ⟨M', r'.put nrf nr (by assumption)⟩
  · exact k.elim)⟩
end
end Mi

/-! The mirror layer: built-ins by values, subscripts, slices, new instances, methods of lists. -/
namespace Mi
open PySem L2
open PyProof.Rows hiding St

section
variable {X : Cx} {Γ : Ct}
/-! ### len, list, abs, int, bool, str -/
def sLen : D → Option Sl
  | .str x => if x.length ≤ 100000 then some (.va (.int x.length)) else none
  | .lst l => some (.va (.int l.length))
  | .tup l => some (.va (.int l.length))
  | .dic ks _ => some (.va (.int ks.length))
  | _ => none
theorem ca_len : CaD X Γ (.builtin "len") sLen := by
  refine ⟨_, call_len.or call_lenD, fun H M x d r Q s h hs k => ?_⟩
  unfold sLen at hs
  split at hs
  · split at hs
    · cases hs
      obtain rfl := h
      exact .inl ⟨_, _, rfl, ⟨Evl.sz_of (by assumption), rfl⟩, k _ _ (Post.int s)⟩
    · cases hs
  · cases hs
    obtain ⟨a, xs, rfl, ha, hxs⟩ := h
    refine .inl ⟨_, _, rfl, .inl ⟨xs, SqL.of ha, rfl⟩, ?_⟩
    rw [hxs.len]
    exact k _ _ (Post.int s)
  · cases hs
    obtain ⟨a, xs, rfl, ha, hxs⟩ := h
    refine .inl ⟨_, _, rfl, .inr ⟨xs, SqT.of ha, rfl⟩, ?_⟩
    rw [hxs.len]
    exact k _ _ (Post.int s)
  · cases hs
    obtain ⟨a, kvs, rfl, ha, hk, _⟩ := h
    refine .inr ⟨a, kvs, rfl, ha, ?_⟩
    rw [← hk, List.length_map] at k
    exact k _ _ (Post.int s)
  · cases hs
def sList : D → Option Sl
  | .lst l => some (.ow 0 (.lst l))
  | .tup l => some (.ow 0 (.lst l))
  | _ => none
theorem ca_list : CaD X Γ (.type "list") sList := by
  refine ⟨_, call_list_of, fun H M x d r Q s h hs k => ?_⟩
  unfold sList at hs
  split at hs
  · cases hs
    obtain ⟨a, xs, rfl, ha, hxs⟩ := h
    exact ⟨a, xs, rfl, .inl (SqL.of ha), fun p hp => k _ _ ⟨M, Grow.own s hp, p, rfl, hp, s.free hp, xs, upd_same, hxs⟩⟩
  · cases hs
    obtain ⟨a, xs, rfl, ha, hxs⟩ := h
    exact ⟨a, xs, rfl, .inr (SqT.of ha), fun p hp => k _ _ ⟨M, Grow.own s hp, p, rfl, hp, s.free hp, xs, upd_same, hxs⟩⟩
  · cases hs
def sInt : D → Option Sl
  | .int i => some (.va (.int i))
  | .bl b => some (.va (.int (if b then 1 else 0)))
  | _ => none
theorem ca_int : CaD X Γ (.type "int") sInt := by
  refine ⟨_, call_int1, fun H M x d r Q s h hs k => ?_⟩
  unfold sInt at hs
  split at hs
  · cases hs
    obtain rfl := h
    exact .inl ⟨_, rfl, k _ _ (Post.int s)⟩
  · cases hs
    obtain rfl := h
    exact .inr ⟨_, rfl, k _ _ (Post.int s)⟩
  · cases hs
def sBool : D → Option Sl
  | .int i => some (.va (.bl (i != 0)))
  | .bl b => some (.va (.bl b))
  | _ => none
theorem ca_bool : CaD X Γ (.type "bool") sBool := by
  refine ⟨_, call_bool1, fun H M x d r Q s h hs k => ?_⟩
  unfold sBool at hs
  split at hs
  · cases hs
    obtain rfl := h
    exact .inl ⟨_, rfl, k _ _ (Post.bl s)⟩
  · cases hs
    obtain rfl := h
    exact .inr ⟨_, rfl, k _ _ (Post.bl s)⟩
  · cases hs
def sAbs : D → Option Sl
  | .int i => some (.va (.int (if i < 0 then -i else i)))
  | .rat q => if sm q = true then some (.va (.rat (if q < 0 then -q else q))) else none
  | _ => none
theorem abs_num (q : Rat) : (if q < 0 then -q else q).num = (if q.num < 0 then -q.num else q.num) ∧ (if q < 0 then -q else q).den = q.den := by
  by_cases h : q < 0
  · have h' : q.num < 0 := by
      have := (Rat.lt_iff q 0).mp h
      simpa using this
    rw [if_pos h, if_pos h']
    exact ⟨rfl, rfl⟩
  · have h' : ¬ q.num < 0 := fun z => h ((Rat.lt_iff q 0).mpr (by simpa using z))
    rw [if_neg h, if_neg h']
    exact ⟨rfl, rfl⟩
/-- a new Ratio with these parts -/
theorem post_rat {H H' M : Hp} {q : Rat} {p dx : Addr} (s : Same M H) (sH : Same H H') (np : H p = none) (hp : H' p = some (.ins Γ.R dx (Fu.rf q.num q.den))) : Post Γ H M (.va (.rat q)) (.ref p) H' := by
  have np' : M p = none := s.free np
  refine ⟨upd M p (.ins Γ.R dx (Fu.rf q.num q.den)), ⟨sH, fun b u e => by rw [upd_ne (ne_of_none e np')]; exact e, fun b u e => ?_, fun b u e => ?_⟩, p, dx, rfl, upd_same⟩
  · by_cases h : b = p
    · subst h
      rw [upd_same] at e
      rw [← e]
      exact hp
    · rw [upd_ne h] at e
      exact sH b u (s b u e)
  · by_cases h : b = p
    · subst h
      exact .inr np
    · rw [upd_ne h] at e
      exact .inl e
theorem ca_abs (O : Fu.RatO X.prog X.w X.K X.mg X.base Γ.R) (hr : Room 6 X.A) : CaD X Γ (.builtin "abs") sAbs := by
  obtain ⟨f, fd, F, M1, b, _⟩ := O.abs
  refine ⟨_, call_abs.or (Fu.call_absO F hr M1 b), fun H M x d r Q s h hs k => ?_⟩
  unfold sAbs at hs
  split at hs
  · cases hs
    obtain rfl := h
    exact .inl ⟨_, rfl, k _ _ (Post.int s)⟩
  · rename_i q
    split at hs
    · rename_i hq
      cases hs
      obtain ⟨a, dx, rfl, ha⟩ := h
      refine .inr ⟨a, dx, _, rfl, ha, a, dx, q.num, q.den, rfl, ha, red_rat q, sm_den hq, fun p dp H' sH np hp => k _ _ (post_rat (dx := dp) s sH np ?_)⟩
      rw [(abs_num q).1, (abs_num q).2]
      exact hp
    · cases hs
  · cases hs
theorem ud_neg (O : Fu.RatO X.prog X.w X.K X.mg X.base Γ.R) (hr : Room 5 X.A) : UnD X Γ (unaryOp .USub) sNeg := by
  obtain ⟨f, fd, F, M1, b, _⟩ := O.neg
  refine ⟨fun x H Q => rU (fun i => .int (-i)) x H Q ∨ Fu.rUnO Γ.R (Fu.spUn Γ.R Fu.U_neg) x H Q, fun pins s σ H x u Q I rx h => ?_, fun H M x d r Q s h hs k => ?_⟩
  · rcases h with h | h
    · exact un_neg pins s σ H x u Q I rx h
    · exact Fu.un_negO F hr M1 b pins s σ H x u Q I rx h
  · unfold sNeg at hs
    split at hs
    · cases hs
      obtain rfl := h
      exact .inl ⟨_, rfl, k _ _ (Post.int s)⟩
    · rename_i q
      split at hs
      · rename_i hq
        cases hs
        obtain ⟨a, dx, rfl, ha⟩ := h
        exact .inr ⟨a, dx, _, rfl, ha, a, dx, q.num, q.den, rfl, ha, red_rat q, sm_den hq, fun p dp H' sH np hp => k _ _ (post_rat s sH np hp)⟩
      · cases hs
    · cases hs
def sMax : D → D → Option Sl
  | .int i, .int j => some (.va (.int (if j > i then j else i)))
  | _, _ => none
def sMin : D → D → Option Sl
  | .int i, .int j => some (.va (.int (if j < i then j else i)))
  | _, _ => none
theorem ca_max (hc : X.calm = true) : CaD2 X Γ (.builtin "max") sMax := by
  refine ⟨_, call_max2 hc, fun H M x y d e r Q s h1 h2 hs k => ?_⟩
  unfold sMax at hs
  split at hs
  · cases hs
    obtain rfl := h1
    obtain rfl := h2
    exact ⟨_, _, rfl, k _ _ (Post.int s)⟩
  · cases hs
theorem ca_min (hc : X.calm = true) : CaD2 X Γ (.builtin "min") sMin := by
  refine ⟨_, call_min2 hc, fun H M x y d e r Q s h1 h2 hs k => ?_⟩
  unfold sMin at hs
  split at hs
  · cases hs
    obtain rfl := h1
    obtain rfl := h2
    exact ⟨_, _, rfl, k _ _ (Post.int s)⟩
  · cases hs
def bls : List D → Option (List Bool)
  | [] => some []
  | .bl b :: l => (bls l).map fun bs => b :: bs
  | _ => none
def intsOf : List D → Option (List Int)
  | [] => some []
  | .int b :: l => (intsOf l).map fun bs => b :: bs
  | _ => none
theorem bls_at {M : Hp} : ∀ {l : List D} {xs : List V} {bs : List Bool}, Ats Γ M l xs → bls l = some bs → xs = bs.map V.bl
  | [], _, _, h, e => by
    cases e
    exact h
  | d :: l, _, _, h, e => by
    obtain ⟨x, r, rfl, h1, h2⟩ := h
    cases d with
    | bl b =>
      dsimp only [bls] at e
      cases e1 : bls l with
      | none => simp [e1] at e
      | some bs =>
        simp only [e1, Option.map_some, Option.some.injEq] at e
        subst e
        obtain rfl := h1
        rw [List.map_cons, bls_at h2 e1]
    | _ => cases e
theorem intsOf_at {M : Hp} : ∀ {l : List D} {xs : List V} {bs : List Int}, Ats Γ M l xs → intsOf l = some bs → xs = bs.map V.int
  | [], _, _, h, e => by
    cases e
    exact h
  | d :: l, _, _, h, e => by
    obtain ⟨x, r, rfl, h1, h2⟩ := h
    cases d with
    | int b =>
      dsimp only [intsOf] at e
      cases e1 : intsOf l with
      | none => simp [e1] at e
      | some bs =>
        simp only [e1, Option.map_some, Option.some.injEq] at e
        subst e
        obtain rfl := h1
        rw [List.map_cons, intsOf_at h2 e1]
    | _ => cases e
def sAll : D → Option Sl
  | .lst l => (bls l).map fun bs => .va (.bl (bs.all id))
  | _ => none
def sAny : D → Option Sl
  | .lst l => (bls l).map fun bs => .va (.bl (bs.any id))
  | _ => none
def sSum : D → Option Sl
  | .lst l => (intsOf l).map fun bs => .va (.int bs.sum)
  | _ => none
theorem ca_all (hc : X.calm = true) : CaD X Γ (.builtin "all") sAll := by
  refine ⟨_, cr_all hc, fun H M x d r Q s h hs k => ?_⟩
  unfold sAll at hs
  split at hs
  · obtain ⟨a, xs, rfl, ha, hxs⟩ := h
    rename_i l
    cases e : bls l with
    | none => simp [e] at hs
    | some bs =>
      simp only [e, Option.map_some, Option.some.injEq] at hs
      subst hs
      rw [bls_at hxs e] at ha
      exact ⟨a, bs, rfl, SqL.of ha, k _ _ (Post.bl s)⟩
  · cases hs
theorem ca_any (hc : X.calm = true) : CaD X Γ (.builtin "any") sAny := by
  refine ⟨_, cr_any hc, fun H M x d r Q s h hs k => ?_⟩
  unfold sAny at hs
  split at hs
  · obtain ⟨a, xs, rfl, ha, hxs⟩ := h
    rename_i l
    cases e : bls l with
    | none => simp [e] at hs
    | some bs =>
      simp only [e, Option.map_some, Option.some.injEq] at hs
      subst hs
      rw [bls_at hxs e] at ha
      exact ⟨a, bs, rfl, SqL.of ha, k _ _ (Post.bl s)⟩
  · cases hs
theorem ca_sum (hc : X.calm = true) : CaD X Γ (.builtin "sum") sSum := by
  refine ⟨_, cr_sum hc, fun H M x d r Q s h hs k => ?_⟩
  unfold sSum at hs
  split at hs
  · obtain ⟨a, xs, rfl, ha, hxs⟩ := h
    rename_i l
    cases e : intsOf l with
    | none => simp [e] at hs
    | some bs =>
      simp only [e, Option.map_some, Option.some.injEq] at hs
      subst hs
      rw [intsOf_at hxs e] at ha
      exact ⟨a, bs, rfl, SqL.of ha, k _ _ (Post.int s)⟩
  · cases hs

/-! ### isinstance -/
/-- the class of a datum -/
def tyD (Γ : Ct) : D → Value
  | .non => .type "NoneType"
  | .bl _ => .type "bool"
  | .int _ => .type "int"
  | .str _ => .type "str"
  | .lst _ => .type "list"
  | .tup _ => .type "tuple"
  | .dic _ _ => .type "dict"
  | .rat _ => .ref Γ.R
  | .obj c _ => .ref (Γ.cls c)
/-- what isinstance asks of the own classes: Ratio and those below n -/
structure TyF (Γ : Ct) (K : PySem.W.Frag) (n : Nat) : Prop where
  r : Fu.ClsI K Γ.R
  c : ∀ i, i < n → Fu.ClsI K (Γ.cls i)
def known (n : Nat) : D → Bool
  | .obj c _ => decide (c < n)
  | _ => true
theorem ty_at {K : PySem.W.Frag} {n : Nat} {H M : Hp} (T : TyF Γ K n) : ∀ {d : D} {v : V}, AtT Γ H M d v → known n d = true → TyX K H v (tyD Γ d)
  | .non, _, h, _ => by cases (show _ = V.non from h); exact .base .non
  | .bl b, _, h, _ => by cases (show _ = V.bl b from h); exact .base (.bl b)
  | .int i, _, h, _ => by cases (show _ = V.int i from h); exact .base (.int i)
  | .str x, _, h, _ => by cases (show _ = V.str x from h); exact .base (.str x)
  | .lst l, _, h, _ => by
    obtain ⟨a, xs, rfl, ha, _⟩ := h
    exact .base (.lst ha)
  | .tup l, _, h, _ => by
    obtain ⟨a, xs, rfl, ha, _⟩ := h
    exact .base (.tup ha)
  | .dic ks l, _, h, _ => by
    obtain ⟨a, kvs, rfl, ha, _⟩ := h
    exact .base (.dK ha)
  | .rat q, _, h, _ => by
    obtain ⟨a, dx, rfl, ha⟩ := h
    exact .base (.ins ha T.r.cl T.r.ha T.r.hn T.r.htk T.r.hm)
  | .obj c l, _, h, hk => by
    obtain ⟨a, dx, fs, rfl, ha, _⟩ := h
    have C := T.c c (of_decide_eq_true hk)
    exact .base (.ins ha C.cl C.ha C.hn C.htk C.hm)
/-- isinstance against the class u answers f -/
structure IsF (Γ : Ct) (K : PySem.W.Frag) (n : Nat) (u : Value) (f : D → Bool) : Prop where
  a : ∀ d, known n d = true → PySem.W.kitOne K (tyD Γ d) u = some (f d)
def sIsi (n : Nat) (f : D → Bool) : D → Option Sl := fun d => if known n d = true then some (.va (.bl (f d))) else none
variable {F : Fr} {W : WX} {a b c o : Expr} {fa fb fo : Ef} {pos p p2 apos : Pos}
theorem de_isi {n : Nat} {u : Value} {cv : V} {f : D → Bool} (T : TyF Γ X.K n) (I : IsF Γ X.K n u f) (hcv : ClsV cv u) (hm : X.mg "isinstance" = none) (ha : DE X Γ F W a fa) (hc : PE X c (tC cv)) (hg : Gl X "isinstance" := by rfl)
    (hs : starEach [a, c] X.env = (false, eval a X.env) :: starEach [c] X.env := by rfl) (hs2 : starEach [c] X.env = (false, eval c X.env) :: starEach [] X.env := by rfl) (hpl : (backTo pos (starEach [c] X.env)).any (·.1) = false := by rfl) : DE X Γ F W (.Call (.Name "isinstance" p) [a, c] [] pos) (fU (sIsi n f) fa) := by
  refine PE.mono (pe_callB call_isi hg hm (by decide +kernel) (pa_cons ha (pa_cons hc pa_nil hs2) hs) (by decide) (by decide) hs hpl) fun σ H Q q => fU_ok (R := fun x H Q => rIsi X.K [x, cv] H Q) (fun H M x d r Q s h hr k => ?_) σ H Q q
  unfold sIsi at hr
  split at hr
  · rename_i hk
    cases hr
    exact ⟨x, cv, _, u, _, rfl, hcv, ty_at T h hk, I.a d hk, k _ _ (Post.bl s)⟩
  · cases hr

/-! ### subscripts -/
def sIx : D → D → Option Sl
  | .lst l, .int i => (atI l i).map fun d => .va d
  | .tup l, .int i => (atI l i).map fun d => .va d
  | .str x, .int i => if x.length ≤ 100000 then (atI x.cps.toList i).map fun c => .va (.str ⟨#[c]⟩) else none
  | _, _ => none
theorem atI_at {M : Hp} {l : List D} {xs : List V} {i : Int} {d : D} (h : Ats Γ M l xs) (e : atI l i = some d) : ∃ x, atI xs i = some x ∧ At Γ M d x := by
  unfold atI at e ⊢
  rw [h.len]
  cases e1 : ixN l.length i with
  | none => simp [e1] at e
  | some j =>
    simp only [e1, Option.bind_some] at e ⊢
    exact h.get e
theorem de_ix (ha : DE X Γ F W a fa) (hb : DE X Γ F W b fb) (hs : PlainIx b := by intro _ _; rfl) : DE X Γ F W (.Subscript a b pos) (fB sIx fa fb) := by
  refine PE.mono (pe_ix ix_seq ha hb hs) (fB_ok fun H M x y d e r Q s h1 h2 hr k => ?_)
  unfold sIx at hr
  split at hr
  · rename_i l i
    obtain ⟨a, xs, rfl, ha, hxs⟩ := h1
    obtain rfl := h2
    cases e1 : atI l i with
    | none => simp [e1] at hr
    | some d =>
      simp only [e1, Option.map_some, Option.some.injEq] at hr
      subst hr
      obtain ⟨v, hv, at_⟩ := atI_at hxs e1
      exact .inl ⟨a, xs, i, v, rfl, rfl, SqL.of ha, hv, k _ _ (Post.va s at_)⟩
  · rename_i l i
    obtain ⟨a, xs, rfl, ha, hxs⟩ := h1
    obtain rfl := h2
    cases e1 : atI l i with
    | none => simp [e1] at hr
    | some d =>
      simp only [e1, Option.map_some, Option.some.injEq] at hr
      subst hr
      obtain ⟨v, hv, at_⟩ := atI_at hxs e1
      exact .inr (.inl ⟨a, xs, i, v, rfl, rfl, SqT.of ha, hv, k _ _ (Post.va s at_)⟩)
  · rename_i x i
    obtain rfl := h1
    obtain rfl := h2
    split at hr
    · rename_i hl
      cases e1 : atI x.cps.toList i with
      | none => simp [e1] at hr
      | some c =>
        simp only [e1, Option.map_some, Option.some.injEq] at hr
        subst hr
        exact .inr (.inr ⟨x, i, c, rfl, rfl, Evl.sz_of hl, e1, k _ _ (Post.va s rfl)⟩)
    · cases hr
  · cases hr
/-! slices -/
abbrev Of := List Sl → Rs (Option Int × List Sl)
def tO (Γ : Ct) (F : Fr) (W : WX) (g : Of) : TO := fun σ H Q => ∃ T S, Rep Γ F T S σ H ∧ Ok3 Γ F W σ (g S) fun a => ∀ H', Rep Γ F T a.2 σ H' → Q a.1 H'
def DO (X : Cx) (Γ : Ct) (F : Fr) (W : WX) (e : Option Expr) (g : Of) : Prop := PO X e (tO Γ F W g)
def oNo : Of := fun S => .ok (none, S)
def intOf : Sl → Option Int
  | .va (.int i) => some i
  | _ => none
def oSo (f : Ef) : Of := fun S => (f S).bind fun a => lift ((intOf a.1).map fun i => (some i, a.2))
theorem PO.mono {e : Option Expr} {t t' : TO} (h : PO X e t) (m : ∀ σ H Q, t' σ H Q → t σ H Q) : PO X e t' := ⟨fun pins s σ H Q I q => h.run pins s σ H Q I (m σ H Q q)⟩
theorem do_none : DO X Γ F W none oNo := PO.mono po_none fun σ H Q ⟨T, S, rep, k⟩ => k H rep
theorem do_some (h : DE X Γ F W a fa) : DO X Γ F W (some a) (oSo fa) := PO.mono (po_some h) fun σ H Q ⟨T, S, rep, k⟩ => ⟨T, S, rep, k.bind.mono fun z q v H' ⟨M, r⟩ => by
  obtain ⟨y, hy, k⟩ := q.lift
  cases e1 : intOf z.1 with
  | none => simp [e1] at hy
  | some i =>
    simp only [e1, Option.map_some, Option.some.injEq] at hy
    subst hy
    have : z.1 = .va (.int i) := by
      revert e1
      cases z.1 with
      | va d =>
        cases d with
        | int j =>
          intro e
          cases e
          rfl
        | _ =>
          intro e
          cases e
      | _ =>
        intro e
        cases e
    rw [this] at r
    obtain ⟨x, ex, hx⟩ := r.allT _ List.mem_cons_self
    cases ex
    exact ⟨i, hx, k H' ⟨M, r.drop⟩⟩⟩
/-- part of a list of anything -/
def cut {α : Type} (xs : List α) (lo hi : Option Int) : List α := (xs.drop (HT.sIx xs.length 0 lo)).take (HT.sIx xs.length xs.length hi - HT.sIx xs.length 0 lo)
theorem Ats.cut {M : Hp} {l : List D} {xs : List V} (h : Ats Γ M l xs) (lo hi : Option Int) : Ats Γ M (cut l lo hi) (cutV xs lo hi) := by
  unfold Mi.cut cutV
  rw [h.len]
  exact (h.drop _).take _
def sSl (d : D) (lo hi : Option Int) : Option Sl := match d with
  | .lst l => some (.ow 0 (.lst (cut l lo hi)))
  | .str x => if x.length ≤ 100000 then some (.va (.str (cutS x lo hi))) else none
  | _ => none
def fSl (fa : Ef) (gl gh : Of) : Ef := fun S => (fa S).bind fun a => (gl a.2).bind fun l => (gh l.2).bind fun h => lift ((peek h.2 a.1).bind fun d => (sSl d l.1 h.1).map fun r => (r, h.2))
theorem de_sl {lo hi : Option Expr} {gl gh : Of} (ha : DE X Γ F W a fa) (hl : DO X Γ F W lo gl) (hh : DO X Γ F W hi gh) : DE X Γ F W (.Subscript a (.Slice lo hi none p2) pos) (fSl fa gl gh) := by
  refine PE.mono (pe_slice (sl_list.or sl_str) ha hl hh) fun σ H Q ⟨T, S, rep, k⟩ => ⟨T, S, rep, k.bind.mono fun a q x H1 rep1 => ⟨_, _, rep1, q.bind.mono fun l q2 H2 rep2 => ⟨_, _, rep2, q2.bind.mono fun h q3 H3 ⟨M, r⟩ => ?_⟩⟩⟩
  obtain ⟨z, hz, k⟩ := q3.lift
  cases e1 : peek h.2 a.1 with
  | none => simp [e1] at hz
  | some d =>
    cases e2 : sSl d l.1 h.1 with
    | none => simp [e1, e2] at hz
    | some r' =>
      simp only [e1, e2, Option.bind_some, Option.map_some, Option.some.injEq] at hz
      subst hz
      have at_ := r.at_ List.mem_cons_self e1
      unfold sSl at e2
      split at e2
      · cases e2
        obtain ⟨p, xs, rfl, hp, hxs⟩ := at_
        exact .inl ⟨p, xs, rfl, SqL.of hp, fun q hq => k _ _ (r.drop.post ⟨M, Grow.own r.sub hq, q, rfl, hq, r.sub.free hq, _, upd_same, hxs.cut _ _⟩)⟩
      · split at e2
        · cases e2
          obtain rfl := at_
          exact .inr ⟨_, rfl, Evl.sz_of (by assumption), k _ _ (r.drop.post (Post.va r.sub rfl))⟩
        · cases e2
      · cases e2

/-! ### new instances -/
variable {T : List (Sl × Option V)} {S : List Sl} {σ : St} {M H : Hp}
theorem RepM.toSlot {s : Sl} {v : Option V} (R : RepM Γ F M ((s, v) :: T) S σ H) (nr : s.isRf = false) : RepM Γ F M T (S ++ [s]) (σ ++ [v]) H := by
  have d := List.pairwise_cons.mp R.disT
  have key : ∀ {i : Nat} {s' : Sl} {w : Option V}, (S ++ [s])[i]? = some s' → (σ ++ [v])[i]? = some w → (S[i]? = some s' ∧ σ[i]? = some w) ∨ (i = S.length ∧ s' = s ∧ w = v) := fun {i s' w} h1 h2 => by
    by_cases hi : i < S.length
    · rw [List.getElem?_append_left hi] at h1
      rw [List.getElem?_append_left (by rw [← R.len]; exact hi)] at h2
      exact .inl ⟨h1, h2⟩
    · rw [List.getElem?_append_right (by omega)] at h1
      rw [List.getElem?_append_right (by rw [← R.len]; omega)] at h2
      rw [← R.len] at h2
      have : i - S.length = 0 := by
        by_cases z : i - S.length = 0
        · exact z
        · rw [List.getElem?_eq_none (by simp; omega)] at h1
          cases h1
      rw [this] at h1 h2
      cases h1
      cases h2
      exact .inr ⟨by omega, rfl, rfl⟩
  have up : ∀ {s' : Sl} {w : Option V}, SlAt Γ F σ H M s' w → SlAt Γ F (σ ++ [v]) H M s' w := fun {s' w} h => by
    cases s' with
    | rf i =>
      obtain ⟨h1, h2⟩ := h
      exact ⟨by rw [List.getElem?_append_left (List.getElem?_eq_some_iff.mp h1).1]; exact h1, h2⟩
    | _ => exact h
  have len : (S ++ [s]).length = (σ ++ [v]).length := by rw [List.length_append, List.length_append, R.len, List.length_singleton, List.length_singleton]
  refine ⟨len, fun i s' hs' => ?_, R.sub, R.frm, R.old, R.new, fun p hp => up (R.allT p (List.mem_cons_of_mem _ hp)), fun i s' w h1 h2 => ?_, d.2, fun i j s' t' w ne h1 h2 o1 o2 h3 h4 => ?_, fun p hp op i s' h1 o1 h2 => ?_⟩
  · have hi := (List.getElem?_eq_some_iff.mp hs').1
    rcases key hs' (List.getElem?_eq_getElem (by rw [← len]; exact hi)) with ⟨z, _⟩ | ⟨_, rfl, _⟩
    · exact R.nrf i s' z
    · exact nr
  · rcases key h1 h2 with ⟨z1, z2⟩ | ⟨_, rfl, rfl⟩
    · exact up (R.allS i s' w z1 z2)
    · exact up (R.allT _ List.mem_cons_self)
  · rcases key h1 h3 with ⟨z1, z2⟩ | ⟨e1, rfl, rfl⟩
    · rcases key h2 h4 with ⟨y1, y2⟩ | ⟨_, rfl, rfl⟩
      · exact R.disS i j s' t' w ne z1 y1 o1 o2 z2 y2
      · exact R.disX _ List.mem_cons_self o2 i s' z1 o1 z2
    · rcases key h2 h4 with ⟨y1, y2⟩ | ⟨e2, rfl, _⟩
      · exact R.disX _ List.mem_cons_self o1 j t' y1 o2 y2
      · exact ne (e1.trans e2.symm)
  · rcases key h1 h2 with ⟨z1, z2⟩ | ⟨_, rfl, e⟩
    · exact R.disX p (List.mem_cons_of_mem _ hp) op i s' z1 o1 z2
    · exact d.1 p hp o1 op e.symm
theorem RepM.offSlot {s : Sl} {v : Option V} (R : RepM Γ F M T (S ++ [s]) (σ ++ [v]) H) (hT : ∀ p ∈ T, ∀ i, p.1 = .rf i → i < σ.length) : RepM Γ F M ((s, v) :: T) S σ H := by
  have len : S.length = σ.length := by
    have := R.len
    rw [List.length_append, List.length_append, List.length_singleton, List.length_singleton] at this
    omega
  have lo : ∀ {i : Nat} {s' : Sl}, S[i]? = some s' → (S ++ [s])[i]? = some s' ∧ i < σ.length := fun {i s'} h => by
    have hi := (List.getElem?_eq_some_iff.mp h).1
    exact ⟨by rw [List.getElem?_append_left hi]; exact h, by rw [← len]; exact hi⟩
  have loσ : ∀ {i : Nat}, i < σ.length → (σ ++ [v])[i]? = σ[i]? := fun {i} h => List.getElem?_append_left h
  have last : (S ++ [s])[S.length]? = some s ∧ (σ ++ [v])[S.length]? = some v := ⟨by simp, by rw [len]; simp⟩
  have nr : s.isRf = false := R.nrf _ _ last.1
  refine ⟨len, fun i s' h => R.nrf i s' (lo h).1, R.sub, R.frm, R.old, R.new, fun p hp => ?_, fun i s' w h1 h2 => ?_, List.pairwise_cons.mpr ⟨fun p hp o1 o2 => ?_, R.disT⟩, fun i j s' t' w ne h1 h2 o1 o2 h3 => ?_, fun p hp op i s' h1 o1 => ?_⟩
  · rcases List.mem_cons.mp hp with rfl | hp
    · exact (R.allS _ _ _ last.1 last.2).slots nr
    · have z := R.allT p hp
      obtain ⟨q, w⟩ := p
      cases q with
      | rf i =>
        obtain ⟨z1, z2⟩ := z
        exact ⟨by rw [← loσ (hT _ hp i rfl)]; exact z1, z2⟩
      | _ => exact z
  · exact (R.allS i s' w (lo h1).1 (by rw [loσ (lo h1).2]; exact h2)).slots (R.nrf i s' (lo h1).1)
  · have := R.disX p hp o2 S.length s last.1 o1
    rw [last.2] at this
    exact fun z => this (by rw [show v = p.2 from z])
  · rw [← loσ (lo h2).2]
    exact R.disS i j s' t' w ne (lo h1).1 (lo h2).1 o1 o2 (by rw [loσ (lo h1).2]; exact h3)
  · rcases List.mem_cons.mp hp with rfl | hp
    · rw [← loσ (lo h1).2]
      have hne : S.length ≠ i := fun z => by
        have := (List.getElem?_eq_some_iff.mp h1).1
        omega
      exact R.disS S.length i s s' v hne last.1 (lo h1).1 op o1 last.2
    · rw [← loσ (lo h1).2]
      exact R.disX p hp op i s' (lo h1).1 o1
theorem RepM.rfLen (R : RepM Γ F M T S σ H) : ∀ p ∈ T, ∀ i, p.1 = .rf i → i < σ.length := fun p hp i e => by
  have z := R.allT p hp
  obtain ⟨q, w⟩ := p
  cases e
  exact (List.getElem?_eq_some_iff.mp z.1).1
theorem dropLast_last {α : Type} {l : List α} {x : α} (h : l.getLast? = some x) : l = l.dropLast ++ [x] := by
  cases l with
  | nil => cases h
  | cons a r =>
    rw [List.getLast?_eq_some_getLast (by simp)] at h
    cases h
    exact (List.dropLast_concat_getLast (by simp)).symm
/-- C(..): the class number c, n fields -/
def mkFin (c n : Nat) (S : List Sl) : Sl → Option Sl → Rs (Sl × List Sl)
  | .va .non, some (.ob _ c' l) => if c' = c ∧ l.length = n then .ok (.va (.obj c l), S) else .no
  | _, _ => .no
def fMake (c n : Nat) (G : Gf) (g : Mf) : Ef := fun S => (g S).bind fun a => (callG G (.rf a.2.length :: a.1) (a.2 ++ [.ob 0 c []])).bind fun b => mkFin c n b.2.dropLast b.1 b.2.getLast?
/-- the class number c with its __init__'s mirror -/
structure MakeD (X : Cx) (Γ : Ct) (c : Nat) (k : Nat) (x : Str) (ps : List Str) (G : Gf) : Prop where
  ex : ∃ (f : Addr) (fd : FuncData), FnOk X.prog X.w X.K X.mg X.base (L2.CX X.prog X.w) k f fd ps (spD Γ G) ∧ Mk X.K (Γ.cls c) f ∧ X.mg x = some (.ref (Γ.cls c)) ∧ Binds X.K fd ps []
theorem ArgsAt.wide {σ : St} {v : Option V} {args : List Sl} {vs : List V} (h : ArgsAt Γ M σ args vs) : ArgsAt Γ M (σ ++ [v]) args vs := by
  induction h with
  | nil => exact .nil
  | cons h1 _ ih =>
    refine .cons ?_ ih
    rename_i a w _ _ _
    cases a with
    | rf i =>
      have z : σ[i]? = some (some w) := h1
      show (σ ++ [v])[i]? = some (some w)
      rw [List.getElem?_append_left (List.getElem?_eq_some_iff.mp z).1]
      exact z
    | va d => exact h1
    | _ => exact h1.elim
theorem de_make {cc n k : Nat} {x : Str} {ps : List Str} {G : Gf} {g : Mf} {es : List Expr} (D1 : MakeD X Γ cc k x ps G) (hn : (Γ.fld cc).length = n) (hr : Room (k + 1) X.A) (tk : Takes X W) (ha : DM X Γ F W (a :: es) g) (hg : Gl X x := by rfl) (hdb : (x == ("__debug__" : Str)) = false := by decide)
    (he : starEach (a :: es) X.env = (false, eval a X.env) :: starEach es X.env := by rfl) (hpl : (backTo pos (starEach es X.env)).any (·.1) = false := by rfl) : DE X Γ F W (.Call (.Name x p) (a :: es) [] pos) (fMake cc n G g) := by
  obtain ⟨f, fd, F1, mk, hm, hb⟩ := D1.ex
  refine PE.mono (Fu.pe_makeS (dvs := []) mk F1 hr hg hm hb .nil (fun σ => passAt tk σ) ha hdb he hpl) fun σ H Q ⟨T, S, rep, h⟩ => ⟨T, S, rep, h.bind.mono fun a h1 vs H1 M r hs xa dx nx nd ne => ?_⟩
  show spD Γ G (.ref xa :: (vs ++ [])) _ _ _
  rw [List.append_nil]
  have sH : Same H1 (upd (upd H1 dx (.own xa)) xa (.ins (Γ.cls cc) dx [])) := fun b u e => by
    rw [upd_ne (ne_of_none e nx), upd_ne (ne_of_none e nd)]
    exact e
  have r1 : RepM Γ F M ((.ob 0 cc [], some (.ref xa)) :: T) a.2 σ (upd (upd H1 dx (.own xa)) xa (.ins (Γ.cls cc) dx [])) :=
    r.pushO rfl ⟨xa, rfl, r.sub.free nx, ⟨dx, [], upd_same, rfl, rfl⟩, r.fresh nx, fun i z => nomatch z⟩ nx sH (r.sub.trans sH)
  have r2 := r1.toSlot rfl
  have ha2 : ArgsAt Γ M (σ ++ [some (.ref xa)]) (.rf a.2.length :: a.1) (.ref xa :: vs) := .cons (by show (σ ++ [some (V.ref xa)])[a.2.length]? = _; rw [r.len]; simp) hs.wide
  have q : Ok3 Γ F (fun c d _ H' => W c d σ H') (σ ++ [some (.ref xa)]) (callG G (.rf a.2.length :: a.1) (a.2 ++ [.ob 0 cc []])) fun b => ∀ v H', Rep Γ F ((b.1, some v) :: T) b.2 (σ ++ [some (.ref xa)]) H' → v = .non ∧ Q (.ref xa) H' := by
    have h2 := h1.bind
    revert h2
    cases callG G (.rf a.2.length :: a.1) (a.2 ++ [.ob 0 cc []]) with
    | er c d => exact fun z => z
    | no => exact fun z => z
    | ok b =>
      intro z v H' ⟨M', R'⟩
      have z : Ok3 Γ F W σ (mkFin cc n b.2.dropLast b.1 b.2.getLast?) (fun a => ∀ (v : V) (H' : Hp), Rep Γ F ((a.1, some v) :: T) a.2 σ H' → Q v H') := z
      unfold mkFin at z
      split at z
      · rename_i t c' l e1 e2
        split at z
        · rename_i hc
          obtain ⟨rfl, hl⟩ := hc
          rw [e1] at R'
          obtain ⟨y, ey, hy⟩ := R'.allT _ List.mem_cons_self
          cases ey
          obtain rfl : v = .non := hy
          refine ⟨rfl, z (.ref xa) H' ?_⟩
          have eb : b.2 = b.2.dropLast ++ [Sl.ob t c' l] := dropLast_last e2
          have R2 := R'.drop
          rw [eb] at R2
          have R3 := R2.offSlot r.rfLen
          obtain ⟨xb, exb, n3, ⟨dx', fs, hx, hf, hat⟩, ln⟩ := R3.allT _ List.mem_cons_self
          cases exb
          have R4 : RepM Γ F M' ((.ow 0 (.obj c' l), some (.ref xa)) :: T) b.2.dropLast σ H' := by
            have d := List.pairwise_cons.mp R3.disT
            refine ⟨R3.len, R3.nrf, R3.sub, R3.frm, R3.old, R3.new, fun p hp => ?_, R3.allS, List.pairwise_cons.mpr ⟨fun p hp _ o2 => d.1 p hp rfl o2, d.2⟩, R3.disS, fun p hp op => ?_⟩
            · rcases List.mem_cons.mp hp with rfl | hp
              · refine ⟨xa, rfl, n3, ⟨dx', fs, hx, ?_, hat⟩, ln.1, fun i z => nomatch z⟩
                rw [hf, hl, ← hn, List.take_length]
              · exact R3.allT p (List.mem_cons_of_mem _ hp)
            · rcases List.mem_cons.mp hp with rfl | hp
              · exact R3.disX (.ob t c' l, some (.ref xa)) List.mem_cons_self rfl
              · exact R3.disX p (List.mem_cons_of_mem _ hp) op
          obtain ⟨M5, x5, _, _, _, R5⟩ := R4.shareT
          exact ⟨M5, R5⟩
        · exact z.elim
      · exact z.elim
  exact callG_ok (W := fun c d _ H' => W c d σ H') r2 ha2 q
end
end Mi

/-! The mirror layer: fields stored, lists changed in place, walks over texts, in. -/
namespace Mi
open PySem L2
open PyProof.Rows hiding St
section
variable {X : Cx} {Γ : Ct} {F : Fr} {W : WX} {E : XK} {e o a b tg : Expr} {fe fa fb : Ef} {pos p' : Pos}
/-! ### self.f = e -/
theorem putF_new {f : Str} {v : V} : ∀ {fs : List (Str × V)}, f ∉ fs.map (·.1) → putF f v fs = fs ++ [(f, v)]
  | [], _ => rfl
  | (g, x) :: r, h => by
    rw [List.map_cons, List.mem_cons, not_or] at h
    unfold putF
    rw [if_neg fun z => h.1 z.symm, putF_new h.2]
    rfl
theorem putF_old {f : Str} {v : V} : ∀ {fs : List (Str × V)} {j : Nat}, (fs.map (·.1))[j]? = some f → (fs.map (·.1)).Nodup → (putF f v fs).map (·.1) = fs.map (·.1) ∧ (putF f v fs).map (·.2) = (fs.map (·.2)).set j v
  | [], j, h, _ => by simp at h
  | (g, x) :: r, 0, h, _ => by
    simp at h
    subst h
    unfold putF
    rw [if_pos rfl]
    exact ⟨rfl, rfl⟩
  | (g, x) :: r, j + 1, h, nd => by
    have h' : (r.map (·.1))[j]? = some f := by simpa using h
    have nd' := List.nodup_cons.mp nd
    have ng : g ≠ f := fun z => nd'.1 (by rw [z]; exact List.mem_of_getElem? h')
    obtain ⟨i1, i2⟩ := putF_old (v := v) h' nd'.2
    unfold putF
    rw [if_neg ng]
    refine ⟨?_, ?_⟩
    · rw [List.map_cons, List.map_cons, i1]
    · rw [List.map_cons, List.map_cons, i2]
      rfl
def sStore (i c j : Nat) (fe : Ef) : Sf := fun S => (fe S).bind fun a => (lift (fz a.2 a.1)).bind fun b => match b.2[i]? with
  | some (.ob t c' l) => if c' = c ∧ l.length = j then .ok (.nx (b.2.set i (.ob t c (l ++ [b.1])))) else .no
  | some (.ow t (.obj c' l)) => if c' = c ∧ j < l.length then .ok (.nx (b.2.set i (.ow t (.obj c (l.set j b.1))))) else .no
  | _ => .no
theorem ds_store {i c j : Nat} {f : Str} (C : ClsF Γ X.K c) (hf : (Γ.fld c)[j]? = some f) (ho : PE X o (tVar i)) (he : DE X Γ F (wx E) e fe) (hs : swapsWith e (some (.Attribute o f p')) pos.line X.env = pure false := by rfl) :
    DS X Γ F E (.Assign [.Attribute o f p'] e pos) (sStore i c j fe) := PS.mono (ps_fld ho he hs) fun D σ H ⟨T, S, nr, rep, k⟩ => ⟨T, S, rep, Ok3.sl (k.bind.mono fun a q v H1 ⟨M, r⟩ => by
  obtain ⟨b, hb, q⟩ := q.bind.lift
  obtain ⟨M', hv, mm, r'⟩ := r.fz hb
  have R := r'.drop
  have hj : j < (Γ.fld c).length := (List.getElem?_eq_some_iff.mp hf).1
  cases h1 : b.2[i]? with
  | none =>
    rw [h1] at q
    exact q.elim
  | some s =>
    rw [h1] at q
    have hi : i < b.2.length := (List.getElem?_eq_some_iff.mp h1).1
    obtain ⟨w, hw⟩ : ∃ w, σ[i]? = some w := ⟨_, List.getElem?_eq_getElem (by rw [← R.len]; exact hi)⟩
    have z := R.allS i s w h1 hw
    cases s with
    | ob t c' l =>
      dsimp only at q
      split at q
      · rename_i hc
        obtain ⟨rfl, hl⟩ := hc
        obtain ⟨x, rfl, n, ⟨dx, fs, ha, hk, hA⟩, ln⟩ := z
        have nf : f ∉ fs.map (·.1) := fun m => by
          rw [hk, hl] at m
          have e1 := List.getElem?_eq_some_iff.mp hf
          have nd := C.nd
          obtain ⟨i', hi'⟩ := List.getElem?_of_mem m
          have lt : i' < j := by
            have := (List.getElem?_eq_some_iff.mp hi').1
            rw [List.length_take] at this
            omega
          rw [List.getElem?_take_of_lt lt] at hi'
          have z := (List.getElem?_inj (by omega) nd).mp (hi'.trans hf.symm)
          omega
        refine ⟨.ref x, hw, x, Γ.cls c', dx, fs, rfl, ha, C.cl, C.na f (List.mem_of_getElem? hf), ?_, ?_⟩
        · have h2 : (fs.map (·.1)).length ≤ (Γ.fld c').length := by
            rw [hk, List.length_take]
            omega
          have := C.le
          rw [List.length_map] at h2
          omega
        · refine q σ _ ⟨M', R.mutS h1 rfl hw ⟨x, rfl, n, ⟨dx, putF f v fs, upd_same, ?_, ?_⟩, ln⟩ rfl⟩
          · rw [putF_new nf, List.map_append, hk, List.length_append, hl]
            show List.take j (Γ.fld c') ++ [f] = List.take (j + 1) (Γ.fld c')
            rw [List.take_succ, hf]
            rfl
          · rw [putF_new nf, List.map_append]
            exact hA.append (Ats.one hv)
      · exact q.elim
    | ow t d =>
      cases d with
      | obj c' l =>
        dsimp only at q
        split at q
        · rename_i hc
          obtain ⟨rfl, hl⟩ := hc
          obtain ⟨x, rfl, n, ⟨dx, fs, ha, hk, hA⟩, ln⟩ := z
          refine ⟨.ref x, hw, x, Γ.cls c', dx, fs, rfl, ha, C.cl, C.na f (List.mem_of_getElem? hf), ?_, ?_⟩
          · have h2 : (fs.map (·.1)).length = (Γ.fld c').length := by rw [hk]
            have := C.le
            rw [List.length_map] at h2
            omega
          · obtain ⟨p1, p2⟩ := putF_old (f := f) (v := v) (fs := fs) (j := j) (by rw [hk]; exact hf) (by rw [hk]; exact C.nd)
            refine q σ _ ⟨M', R.mutS h1 rfl hw ⟨x, rfl, n, ⟨dx, putF f v fs, upd_same, p1.trans hk, ?_⟩, ln⟩ rfl⟩
            rw [p2]
            exact hA.set hv
        · exact q.elim
      | _ => exact q.elim
    | _ => exact q.elim)⟩
/-! ### lists changed in place -/
def MtL (X : Cx) (Γ : Ct) (id : String) (sem : List D → List D → Option (D × List D)) : Prop := ∃ r : V → List V → Hp → VK → Prop, MtR X id r ∧ ∀ (H M : Hp) (x : Addr) (xs vs : List V) (l ds : List D) (z : D × List D) (Q : VK),
  Same M H → M x = none → H x = some (.lst xs) → Ats Γ M l xs → Ats Γ M ds vs → sem l ds = some z → (∀ v ys, At Γ M z.1 v → Ats Γ M z.2 ys → Q v (upd H x (.lst ys))) → r (.ref x) vs H Q
def isLs : Option Sl → Bool
  | some (.ow _ (.lst _)) => true
  | _ => false
def fMut (i : Nat) (sem : List D → List D → Option (D × List D)) (g : Af) : Ef := fun S => if isLs S[i]? = true then (g S).bind fun a => match a.2[i]? with
  | some (.ow t (.lst l)) => lift ((sem l a.1).map fun z => (.va z.1, a.2.set i (.ow t (.lst z.2))))
  | _ => .no
  else .no
theorem isLs_at {M H : Hp} {T : List (Sl × Option V)} {S : List Sl} {σ : St} {i : Nat} (R : RepM Γ F M T S σ H) (h : isLs S[i]? = true) : ∃ t l x xs, S[i]? = some (.ow t (.lst l)) ∧ σ[i]? = some (some (.ref x)) ∧ M x = none ∧ H x = some (.lst xs) ∧ Ats Γ M l xs ∧ Lent F t x := by
  cases h1 : S[i]? with
  | none =>
    rw [h1] at h
    cases h
  | some s =>
    rw [h1] at h
    cases s with
    | ow t d =>
      cases d with
      | lst l =>
        have hi : i < S.length := (List.getElem?_eq_some_iff.mp h1).1
        obtain ⟨w, hw⟩ : ∃ w, σ[i]? = some w := ⟨_, List.getElem?_eq_getElem (by rw [← R.len]; exact hi)⟩
        obtain ⟨x, rfl, n, ⟨xs, ha, hA⟩, ln⟩ := R.allS i _ w h1 hw
        exact ⟨t, l, x, xs, rfl, hw, n, ha, hA, ln⟩
      | _ => cases h
    | _ => cases h
theorem fMut_ok {i : Nat} {sem : List D → List D → Option (D × List D)} {g : Af} {r : V → List V → Hp → VK → Prop} (hr : ∀ (H M : Hp) (x : Addr) (xs vs : List V) (l ds : List D) (z : D × List D) (Q : VK),
    Same M H → M x = none → H x = some (.lst xs) → Ats Γ M l xs → Ats Γ M ds vs → sem l ds = some z → (∀ v ys, At Γ M z.1 v → Ats Γ M z.2 ys → Q v (upd H x (.lst ys))) → r (.ref x) vs H Q) :
    ∀ σ H Q, tE Γ F W (fMut i sem g) σ H Q → tBM X.K "list" r (tVar i) (tA Γ F W g) σ H Q := by
  rintro σ H Q ⟨T, S, ⟨M, R⟩, k⟩
  unfold fMut at k
  split at k
  · rename_i h1
    obtain ⟨t, l, x, xs, hS, hσ, n, ha, hA, ln⟩ := isLs_at R h1
    refine ⟨.ref x, hσ, .inl ⟨rfl, _, SqL.of ha⟩, T, S, ⟨M, R⟩, k.bind.mono fun a q vs H1 M1 R1 hs => ?_⟩
    cases h2 : a.2[i]? with
    | none =>
      rw [h2] at q
      exact q.elim
    | some s =>
      rw [h2] at q
      cases s with
      | ow t' d =>
        cases d with
        | lst l' =>
          obtain ⟨z, hz, q⟩ := q.lift
          cases e3 : sem l' a.1 with
          | none =>
            rw [e3] at hz
            cases hz
          | some y =>
            rw [e3] at hz
            cases hz
            obtain ⟨t2, l2, x2, xs2, hS2, hσ2, n2, ha2, hA2, ln2⟩ := isLs_at (i := i) R1 (by rw [h2]; rfl)
            rw [h2] at hS2
            cases hS2
            rw [hσ] at hσ2
            cases hσ2
            refine hr H1 M1 x xs2 vs l' a.1 y Q R1.sub n2 ha2 hA2 hs e3 fun v ys hv hy => q v _ ⟨M1, ?_⟩
            have z : SlAt Γ F σ (upd H1 x (.lst ys)) M1 (.ow t' (.lst y.2)) (some (.ref x)) := ⟨x, rfl, n2, ⟨ys, upd_same, hy⟩, ln2⟩
            exact (R1.mutS h2 rfl hσ z rfl).push hv
        | _ => exact q.elim
      | _ => exact q.elim
  · exact k.elim
theorem de_mut {i : Nat} {name : Str} {id : String} {sem : List D → List D → Option (D × List D)} {g : Af} {es : List Expr} {apos cpos : Pos} (hm : MtL X Γ id sem) (slot : Slot "list" name id) (hty : typeOf (.builtin id) = pure (.type "method_descriptor")) (ho : PE X o (tVar i)) (ha : DA X Γ F W (e :: es) g)
    (hbase : attributeBase o name X.env (eval o X.env) = eval o X.env := by rfl)
    (hfew : ((backTo cpos (starEach (e :: es) X.env)).all (fun x => !x.1) && (backToKw cpos (keywordEach [] X.env)).all (fun x => x.1.isSome)
      && decide ((e :: es).length + ([] : List Keyword).length + (if ([] : List Keyword).isEmpty then 0 else 1) < 30)) = true := by rfl)
    (hline : (apos.endLine == cpos.line) = true := by rfl) (hs : starEach (e :: es) X.env = (false, eval e X.env) :: starEach es X.env := by rfl) (hplain : (backTo cpos (starEach es X.env)).any (·.1) = false := by rfl) :
    DE X Γ F W (.Call (.Attribute o name apos) (e :: es) [] cpos) (fMut i sem g) := by
  obtain ⟨r, h1, h2⟩ := hm
  exact PE.mono (pe_bm PySem.F.plainAttrs_list slot hty h1 ho ha hbase hfew hline hs hplain) (fMut_ok h2)
theorem de_mut0 {i : Nat} {name : Str} {id : String} {sem : List D → List D → Option (D × List D)} {apos cpos : Pos} (hm : MtL X Γ id sem) (slot : Slot "list" name id) (hty : typeOf (.builtin id) = pure (.type "method_descriptor")) (ho : PE X o (tVar i))
    (hbase : attributeBase o name X.env (eval o X.env) = eval o X.env := by rfl) (hline : (apos.endLine == cpos.line) = true := by rfl) : DE X Γ F W (.Call (.Attribute o name apos) [] [] cpos) (fMut i sem aNil) := by
  obtain ⟨r, h1, h2⟩ := hm
  refine PE.mono (pe_bm0 PySem.F.plainAttrs_list slot hty h1 ho hbase hline) fun σ H Q h => ?_
  obtain ⟨x, e1, ty, T, S, ⟨M, R⟩, k⟩ := fMut_ok (X := X) h2 σ H Q h
  exact ⟨x, e1, ty, k [] H M R rfl⟩
def mApp (l ds : List D) : Option (D × List D) := match ds with
  | [d] => if l.length < 100000 then some (.non, l ++ [d]) else none
  | _ => none
def mExt (l ds : List D) : Option (D × List D) := match ds with
  | [.lst m] => if l.length + m.length < 100000 then some (.non, l ++ m) else none
  | _ => none
def mClr (l ds : List D) : Option (D × List D) := match ds with
  | [] => some (.non, [])
  | _ => none
def mPop (l ds : List D) : Option (D × List D) := match ds with
  | [] => l.getLast?.map fun d => (d, l.dropLast)
  | _ => none
theorem big : (100000 : Nat) ≤ sizeLine := by decide
theorem mt_app : MtL X Γ "list.append" mApp := ⟨rAppend, mt_append, fun H M x xs vs l ds z Q s n ha hA hd e k => by
  unfold mApp at e
  split at e
  · split at e
    · rename_i d hl
      cases e
      obtain ⟨v, r, rfl, hv, hr⟩ := hd
      obtain rfl := hr
      have := hA.len
      have := big
      exact ⟨x, xs, v, rfl, rfl, ha, by omega, k .non _ rfl (hA.append (Ats.one hv))⟩
    · cases e
  · cases e⟩
theorem mt_ext : MtL X Γ "list.extend" mExt := ⟨rExtend, mt_extend, fun H M x xs vs l ds z Q s n ha hA hd e k => by
  unfold mExt at e
  split at e
  · split at e
    · rename_i m hl
      cases e
      obtain ⟨v, r, rfl, ⟨y, ys, rfl, hy, hY⟩, hr⟩ := hd
      obtain rfl := hr
      have := hA.len
      have := hY.len
      have := big
      exact ⟨x, y, xs, ys, rfl, rfl, ha, s _ _ hy, by omega, k .non _ rfl (hA.append hY)⟩
    · cases e
  · cases e⟩
theorem mt_clr : MtL X Γ "list.clear" mClr := ⟨rClear, mt_clear, fun H M x xs vs l ds z Q s n ha hA hd e k => by
  unfold mClr at e
  split at e
  · cases e
    obtain rfl := hd
    exact ⟨x, xs, rfl, rfl, ha, k .non [] rfl rfl⟩
  · cases e⟩
theorem mt_po : MtL X Γ "list.pop" mPop := ⟨rPop, L2.mt_pop, fun H M x xs vs l ds z Q s n ha hA hd e k => by
  unfold mPop at e
  split at e
  · cases h1 : l.getLast? with
    | none =>
      rw [h1] at e
      cases e
    | some d =>
      rw [h1] at e
      cases e
      obtain rfl := hd
      have hl := hA.len
      rw [List.getLast?_eq_getElem?] at h1
      obtain ⟨y, hy, hv⟩ := hA.get h1
      rw [← hl] at hy
      refine ⟨x, xs, y, rfl, rfl, ha, hy, k y _ hv ?_⟩
      rw [List.dropLast_eq_take, List.dropLast_eq_take, ← hl]
      exact hA.take _
  · cases e⟩
/-! ### walks over texts -/
def signs (x : Str) : List D := x.cps.toList.map fun c => .str ⟨#[c]⟩
def strOf : D → Option Str
  | .str x => some x
  | _ => none
def iSt (f : Ef) : If := fun S => (f S).bind fun a => lift ((peek a.2 a.1).bind fun d => (strOf d).map fun x => (signs x, a.2))
theorem walkD_str {x : Str} : WalkD Γ [] (signs x) (Its x) := by
  have hl : (signs x).length = x.cps.size := by simp [signs]
  refine ⟨_, _, (by have := walk_str (z := x); rw [hl]; exact this), fun _ _ _ _ => trivial, fun i H1 M1 v H2 hi h s y => ?_⟩
  obtain ⟨rfl, c, hc, rfl⟩ := y
  refine ⟨M1, .str ⟨#[c]⟩, Grow.refl s, ?_, rfl⟩
  unfold signs
  rw [List.getElem?_map, Array.getElem?_toList, hc]
  rfl
theorem di_str (h : DE X Γ F W e fa) : DI X Γ F W tg e (iSt fa) := PI.mono (pi_str h) fun σ H R ⟨T, S, rep, k⟩ => ⟨T, S, rep, k.bind.mono fun a q v H' ⟨M, r⟩ => by
  obtain ⟨z, hz, q⟩ := q.lift
  cases e1 : peek a.2 a.1 with
  | none =>
    rw [e1] at hz
    cases hz
  | some d =>
    have hd := r.at_ List.mem_cons_self e1
    rw [e1] at hz
    cases d with
    | str x =>
      cases hz
      obtain rfl : v = .str x := hd
      exact ⟨x, rfl, q _ H' M [] (fun _ hq => by simp at hq) r.drop walkD_str⟩
    | _ => cases hz⟩
/-! ### in, of flat things -/
def flatD : D → Bool
  | .non => true
  | .bl _ => true
  | .int _ => true
  | .str _ => true
  | _ => false
def eqF : D → D → Bool
  | .non, .non => true
  | .bl a, .bl b => a == b
  | .bl a, .int b => (if a then 1 else 0) == b
  | .int a, .bl b => a == (if b then 1 else 0)
  | .int a, .int b => a == b
  | .str a, .str b => a == b
  | _, _ => false
def toV : D → V
  | .non => .non
  | .bl b => .bl b
  | .int i => .int i
  | .str x => .str x
  | _ => .non
theorem flat_at {H M : Hp} {d : D} {v : V} (h : AtT Γ H M d v) (f : flatD d = true) : v = toV d := by
  cases d <;> first | exact h | cases f
theorem flat_atM {M : Hp} {d : D} {v : V} (h : At Γ M d v) (f : flatD d = true) : v = toV d := by
  cases d <;> first | exact h | cases f
theorem flat_V {d : D} (f : flatD d = true) : flatV (toV d) = true := by
  cases d <;> first | rfl | (have f' : false = true := f; cases f')
theorem eqF_V {d e : D} (f : flatD d = true) (g : flatD e = true) : eqV (toV d) (toV e) = eqF d e := by
  cases d <;> first | (have f' : false = true := f; cases f') | (cases e <;> first | (have g' : false = true := g; cases g') | rfl)
theorem flats_at {M : Hp} : ∀ {l : List D} {xs : List V}, Ats Γ M l xs → l.all flatD = true → xs = l.map toV
  | [], _, h, _ => by
    obtain rfl := h
    rfl
  | d :: l, _, h, f => by
    obtain ⟨x, r, rfl, h1, h2⟩ := h
    rw [List.all_cons, Bool.and_eq_true] at f
    rw [flat_atM h1 f.1, flats_at h2 f.2]
    rfl
theorem flats_V : ∀ {l : List D}, l.all flatD = true → (l.map toV).all flatV = true
  | [], _ => rfl
  | d :: l, f => by
    rw [List.all_cons, Bool.and_eq_true] at f
    rw [List.map_cons, List.all_cons, flat_V f.1, flats_V f.2]
    rfl
theorem in_V {d : D} (g : flatD d = true) : ∀ {l : List D}, l.all flatD = true → inV (toV d) (l.map toV) = l.any fun e => eqF e d
  | [], _ => rfl
  | e :: l, f => by
    rw [List.all_cons, Bool.and_eq_true] at f
    have ih := in_V g f.2
    unfold inV at ih ⊢
    rw [List.map_cons, List.any_cons, List.any_cons, ih, eqF_V f.1 g]
def one? (x : Str) : Option Nat := match x.cps.toList with
  | [c] => some c
  | _ => none
theorem one_is {x : Str} {c : Nat} (h : one? x = some c) : x = ⟨#[c]⟩ := by
  obtain ⟨⟨l⟩⟩ := x
  unfold one? at h
  dsimp only at h
  match l, h with
  | [c'], h =>
    cases h
    rfl
def seqOf : D → Option (List D)
  | .lst l => some l
  | .tup l => some l
  | _ => none
def sIn (neg : Bool) (d e : D) : Option Sl := match d, e with
  | .str x, .str z => (one? x).map fun c => .va (.bl (if neg then !decide (c ∈ z.cps.toList) else decide (c ∈ z.cps.toList)))
  | d, e => (seqOf e).bind fun l => if (flatD d && l.all flatD) = true then some (.va (.bl (if neg then !(l.any fun z => eqF z d) else l.any fun z => eqF z d))) else none
theorem sIn_ok {neg : Bool} {H M : Hp} {x y : V} {d e : D} {r : Sl} {Q : VK} {rs : R2} (s : Same M H) (h1 : AtT Γ H M d x) (h2 : AtT Γ H M e y) (he : sIn neg d e = some r) (k : ∀ v H', Post Γ H M r v H' → Q v H')
    (hrs : ∀ c z, x = .str ⟨#[c]⟩ → y = .str z → Q (.bl (if neg then !decide (c ∈ z.cps.toList) else decide (c ∈ z.cps.toList))) H → rs x y H Q) : rs x y H Q ∨ rIn X.K neg x y H Q := by
  have main : (seqOf e).bind (fun l => if (flatD d && l.all flatD) = true then some (Sl.va (.bl (if neg then !(l.any fun z => eqF z d) else l.any fun z => eqF z d))) else none) = some r → rIn X.K neg x y H Q := by
    intro he
    have fin : ∀ (l : List D) (q : Addr) (xs : List V), y = .ref q → (SqL X.K H q xs ∨ SqT X.K H q xs) → Ats Γ M l xs → seqOf e = some l → rIn X.K neg x y H Q := by
      intro l q xs hy hq hs hl
      rw [hl] at he
      dsimp only [Option.bind_some] at he
      split at he
      · rename_i hf
        cases he
        rw [Bool.and_eq_true] at hf
        have ex := flat_at h1 hf.1
        have exs := flats_at hs hf.2
        subst ex exs
        refine ⟨q, _, hy, hq, flat_V hf.1, flats_V hf.2, k _ H ?_⟩
        rw [in_V hf.1 hf.2]
        exact Post.bl s
      · cases he
    cases e with
    | lst l =>
      obtain ⟨q, xs, hy, hq, hs⟩ := h2
      exact fin l q xs hy (.inl (SqL.of hq)) hs rfl
    | tup l =>
      obtain ⟨q, xs, hy, hq, hs⟩ := h2
      exact fin l q xs hy (.inr (SqT.of hq)) hs rfl
    | _ => cases he
  unfold sIn at he
  split at he
  · rename_i a z
    cases h3 : one? a with
    | none =>
      rw [h3] at he
      cases he
    | some c =>
      rw [h3] at he
      cases he
      obtain rfl : x = .str a := h1
      obtain rfl : y = .str z := h2
      have ea := one_is h3
      subst ea
      exact .inl (hrs c z rfl rfl (k _ H (Post.bl s)))
  · exact .inr (main he)
theorem od_in : OpD X Γ (compareOp .In) (sIn false) :=
  ⟨_, op_in_sign.or op_in_seq, fun H M x y d e r Q s h1 h2 he k => sIn_ok (X := X) (rs := fun x y H Q => ∃ (c : Nat) (z : Str), x = .str ⟨#[c]⟩ ∧ y = .str z ∧ Q (.bl (decide (c ∈ z.cps.toList))) H) s h1 h2 he k fun c z hx hy q => ⟨c, z, hx, hy, q⟩⟩
theorem od_notIn : OpD X Γ (compareOp .NotIn) (sIn true) :=
  ⟨_, op_notIn_sign.or op_notIn_seq, fun H M x y d e r Q s h1 h2 he k => sIn_ok (X := X) (rs := fun x y H Q => ∃ (c : Nat) (z : Str), x = .str ⟨#[c]⟩ ∧ y = .str z ∧ Q (.bl (!decide (c ∈ z.cps.toList))) H) s h1 h2 he k fun c z hx hy q => ⟨c, z, hx, hy, q⟩⟩
end
end Mi

/-! == of lists and tuples, item by item, where the items' == may make objects; either answer. -/
namespace GQ
open PySem PySem.SeqAt
open AutoSeq1 (wpAny_loadPart')
open MeetsSeq MeetsSeq2 MeetsSeq3 SeqRoads2
section
variable {prog : Program} {w : World} {A : Around} {R : Result → Shared → Prop}
/-- at each turn the two lists are read anew: N items each, the i-th two answer e i -/
def ListB (prog : Program) (w : World) (A : Around) (E : Value → Shared → Prop) (l b : Addr) (N : Nat) (e : Nat → Bool) (I : Shared → Prop) : Prop :=
  ∀ i s, I s → (∀ j, j < i → e j = true) → ∃ (items items2 : Array Value) (n n2 : Nat), s.heap.get? l = some { cls := .type "list", data := .seq items n } ∧ s.heap.get? b = some { cls := .type "list", data := .seq items2 n2 } ∧ items.size = N ∧ items2.size = N ∧
    ∀ (h1 : i < items.size) (h2 : i < items2.size), wpAny (model prog w) A.in1 (eqBool items[i] items2[i]) (fun r s' => r = e i ∧ I s') E s
theorem eq_loopB (l b : Addr) (N : Nat) (e : Nat → Bool) (I : Shared → Prop) (hl : ListB prog w A (fun e s' => R (.error e) s') l b N e I)
    (fin : ∀ s, (∀ j, j < N → e j = true) → I s → R (.ok (.ret (.bool true))) s) (fal : ∀ s j, j < N → e j = false → I s → R (.ok (.ret (.bool false))) s) (k : Nat) :
    ∀ i : Nat, N - i = k → i ≤ N → (∀ j, j < i → e j = true) → ∀ s, I s →
      wpAny (model prog w) A.in1 (Builtin.«list.__eq__.loop» ⟨[.ref l, .ref b, rawInt i, rawInt 2], []⟩) (FinOf prog w A R) (fun e s' => R (.error e) s') s := by
  induction k with
  | zero =>
    intro i hk hi ht s h
    obtain ⟨items, items2, n, n2, hl1, hb1, hs1, hs2, _⟩ := hl i _ h ht
    have hi' : i = N := by omega
    have hR : R (.ok (.ret (.bool true))) s := fin s (hi' ▸ ht) h
    obtain ⟨hp, g, d, tk, os⟩ := s
    wp_walk using wpAny_loadPart' hl1, wpAny_loadPart' hb1
    have hi1 : items[((i : Nat) : Int).toNat]? = none := by simp; omega
    have hi2 : items2[((i : Nat) : Int).toNat]? = none := by simp; omega
    rw [hi1, hi2]
    wp_walk using wpAny_loadPart' hl1, wpAny_loadPart' hb1
    show R (.ok (.ret (.bool (items.size == items2.size)))) _
    rw [hs1, hs2]
    simpa using hR
  | succ k ih =>
    intro i hk hi ht s h
    obtain ⟨items, items2, n, n2, hl1, hb1, hs1, hs2, turn⟩ := hl i _ h ht
    have hlt : i < items.size := by omega
    have hlt2 : i < items2.size := by omega
    have hu := turn hlt hlt2
    obtain ⟨hp, g, d, tk, os⟩ := s
    wp_walk using wpAny_loadPart' hl1, wpAny_loadPart' hb1
    have hi1 : items[((i : Nat) : Int).toNat]? = some items[i] := by simp [hlt]
    have hi2 : items2[((i : Nat) : Int).toNat]? = some items2[i] := by simp [hlt2]
    have hc : ((i : Int) + 1) = ((i + 1 : Nat) : Int) := by omega
    rw [hi1, hi2]
    refine wpAny_bind (wpAny_mono hu (fun r s2 h2 => ?_) fun _ _ x => x)
    obtain ⟨hr, h2⟩ := h2
    cases he : e i with
    | true =>
      rw [he] at hr
      subst hr
      have hrec := ih (i + 1) (by omega) (by omega) (fun j hj => by
        by_cases z : j = i
        · rw [z]; exact he
        · exact ht j (by omega)) s2 h2
      obtain ⟨hp2, g2, d2, tk2, os2⟩ := s2
      wp_walk
      rw [hc]
      exact ⟨plainId_quiet plain_eq_loop _, codeAny_builtin entry_eq_loop (by
        rw [Around.under_plainId plain_eq_loop _]
        exact hrec)⟩
    | false =>
      rw [he] at hr
      subst hr
      have hR := fal s2 i (by omega) he h2
      obtain ⟨its, its2, m, m2, kl1, kb1, ks1, ks2, _⟩ := hl i _ h2 ht
      obtain ⟨hp2, g2, d2, tk2, os2⟩ := s2
      wp_walk using wpAny_loadPart' kl1, wpAny_loadPart' kb1
      have ki1 : its[((i : Nat) : Int).toNat]? = some (its[i]'(by omega)) := by simp
      have ki2 : its2[((i : Nat) : Int).toNat]? = some (its2[i]'(by omega)) := by simp [ks2]
      rw [ki1, ki2]
      wp_walk
      exact hR

theorem list_eqB (l b : Addr) (N : Nat) (e : Nat → Bool) (I : Shared → Prop) (hl : ListB prog w A (fun e s' => R (.error e) s') l b N e I)
    (fin : ∀ s, (∀ j, j < N → e j = true) → I s → R (.ok (.ret (.bool true))) s) (fal : ∀ s j, j < N → e j = false → I s → R (.ok (.ret (.bool false))) s) {s : Shared} (h : I s) :
    wpAny (model prog w) A.in1 (Builtin.«list.__eq__» ⟨[.ref l, .ref b], []⟩) (FinOf prog w A R) (fun e s' => R (.error e) s') s := by
  obtain ⟨items, items2, n, n2, hl1, hb1, hs1, hs2, _⟩ := hl 0 _ h (fun j hj => absurd hj (Nat.not_lt_zero j))
  have hrec := eq_loopB (A := A) (R := R) l b N e I hl fin fal _ 0 rfl (Nat.zero_le _) (fun j hj => absurd hj (Nat.not_lt_zero j)) s h
  obtain ⟨hp, g, d, tk, os⟩ := s
  have f3 := AutoSeq1.sub_list_list
  have hne : ¬ (items.size != items2.size) = true := by simp [hs1, hs2]
  wp_walk using wpAny_loadPart' hl1, wpAny_loadPart' hb1
  exact ⟨plainId_quiet plain_eq_loop _, codeAny_builtin entry_eq_loop (by
    rw [Around.under_plainId plain_eq_loop _]
    exact hrec)⟩
/-- two tuples: the items are asked in turn, then the lengths -/
theorem tuple_eqB (l b : Addr) (items items2 : Array Value) (n n2 : Nat) (dd dd2 : Option Addr) (sl sl2 : Array (Option Value)) (e : Nat → Bool) (I : Shared → Prop)
    (turn : ∀ i (h1 : i < items.size) (h2 : i < items2.size) s, I s → (∀ j, j < i → e j = true) → wpAny (model prog w) A.in1 (eqBool items[i] items2[i]) (fun r s' => r = e i ∧ I s') (fun e s' => R (.error e) s') s)
    (fin : ∀ s, (∀ j, j < items.size → j < items2.size → e j = true) → I s → R (.ok (.ret (.bool (items.size == items2.size)))) s) (fal : ∀ s j, j < items.size → j < items2.size → e j = false → I s → R (.ok (.ret (.bool false))) s)
    {s : Shared} (hl1 : s.heap.get? l = some { cls := .type "tuple", dict := dd, data := .seq items n, slots := sl }) (hb1 : s.heap.get? b = some { cls := .type "tuple", dict := dd2, data := .seq items2 n2, slots := sl2 }) (h : I s) :
    wpAny (model prog w) A.in1 (Builtin.«tuple.__eq__» ⟨[.ref l, .ref b], []⟩) (FinOf prog w A R) (fun e s' => R (.error e) s') s := by
  have f2 := AutoSeq1.sub_tuple_tuple
  have hZ : (items.toList.zip items2.toList).length = min items.size items2.size := by simp
  have h0 := h
  obtain ⟨hp, g, d, tk, os⟩ := s
  wp_walk using wpAny_loadPart' hl1, wpAny_loadPart' hb1, wpAny_forIn_list _ (fun rest b s' => b.1 = none ∧ I s' ∧ ∃ i, rest = (items.toList.zip items2.toList).drop i ∧ ∀ j, j < i → e j = true) _
  case turn =>
    rintro ⟨y, x⟩ rest b s' ⟨hb', hI, i, hz, ht⟩
    have hlt : i < (items.toList.zip items2.toList).length := by
      rcases Nat.lt_or_ge i (items.toList.zip items2.toList).length with h' | h'
      · exact h'
      · rw [List.drop_of_length_le h'] at hz; cases hz
    have hm : i < min items.size items2.size := hZ ▸ hlt
    have h1 : i < items.size := Nat.lt_of_lt_of_le hm (Nat.min_le_left _ _)
    have h2 : i < items2.size := Nat.lt_of_lt_of_le hm (Nat.min_le_right _ _)
    rw [List.drop_eq_getElem_cons hlt] at hz
    injection hz with hyx hrest
    have hy : y = items[i] := by have := congrArg Prod.fst hyx; simpa using this
    have hx : x = items2[i] := by have := congrArg Prod.snd hyx; simpa using this
    subst hy hx
    refine wpAny_bind (wpAny_mono (turn i h1 h2 s' hI ht) (fun r s2 q2 => ?_) fun _ _ x => x)
    obtain ⟨hr, q2⟩ := q2
    cases he : e i with
    | true =>
      rw [he] at hr
      subst hr
      wp_walk
      refine ⟨rfl, q2, i + 1, hrest, fun j hj => ?_⟩
      by_cases z : j = i
      · rw [z]; exact he
      · exact ht j (by omega)
    | false =>
      rw [he] at hr
      subst hr
      have hR := fal s2 i h1 h2 he q2
      wp_walk
      exact hR
  case fin =>
    rintro ⟨b1, b2⟩ s' ⟨hb', hI, i, hz, ht⟩
    simp only at hb'
    subst hb'
    have hge : min items.size items2.size ≤ i := by
      rcases Nat.lt_or_ge i (items.toList.zip items2.toList).length with h' | h'
      · rw [List.drop_eq_getElem_cons h'] at hz; cases hz
      · exact hZ ▸ h'
    have hR := fin s' (fun j h1 h2 => ht j (by omega)) hI
    wp_walk
    simpa [Builtin.Tuple.tupleCompareSizes] using hR
  case h =>
    exact ⟨rfl, h0, 0, rfl, fun j hj => absurd hj (Nat.not_lt_zero j)⟩
end
section
variable {prog : Program} {w : World} {A : Around} {E : Value → Shared → Prop} {s : Shared}
theorem rc_listB {l b : Addr} {N : Nat} {e : Nat → Bool} {Q : Value → Shared → Prop} (hu : A.units < cLine) (I : Shared → Prop) (hl : ListB prog w A E l b N e I)
    (fin : ∀ s, (∀ j, j < N → e j = true) → I s → Q (.bool true) s) (fal : ∀ s j, j < N → e j = false → I s → Q (.bool false) s) (h : I s) : wpAny (model prog w) A (richCompare .Eq (.ref l) (.ref b)) Q E s := by
  obtain ⟨items, items2, n, n2, hl1, hb1, _, _, _⟩ := hl 0 _ h (fun j hj => absurd hj (Nat.not_lt_zero j))
  refine wpAny_richCompare_same_room (op := .Eq) ⟨_, hl1, rfl⟩ ⟨_, hb1, rfl⟩ F.slot_list_eq (call_here F.slot_list_eq ⟨_, hl1, rfl⟩ F.entry_list_eq (F.args_list_eq_2 _ _) ?_) hu
  exact list_eqB (R := wants (fun v s' => v ≠ .notImplemented ∧ Q v s') E) l b N e I hl (fun s' t q => ⟨(fun x => nomatch x), fin s' t q⟩) (fun s' j hj hf q => ⟨(fun x => nomatch x), fal s' j hj hf q⟩) h
theorem rc_tupB {l b : Addr} {items items2 : Array Value} {e : Nat → Bool} {Q : Value → Shared → Prop} (hu : A.units < cLine) (I : Shared → Prop) (hl : s.heap.IsTuple l items) (hb : s.heap.IsTuple b items2)
    (turn : ∀ i (h1 : i < items.size) (h2 : i < items2.size) s, I s → (∀ j, j < i → e j = true) → wpAny (model prog w) A.in1 (eqBool items[i] items2[i]) (fun r s' => r = e i ∧ I s') E s)
    (fin : ∀ s, (∀ j, j < items.size → j < items2.size → e j = true) → I s → Q (.bool (items.size == items2.size)) s) (fal : ∀ s j, j < items.size → j < items2.size → e j = false → I s → Q (.bool false) s) (h : I s) : wpAny (model prog w) A (richCompare .Eq (.ref l) (.ref b)) Q E s := by
  obtain ⟨⟨cls, dd, data, sl⟩, ho, hc, n, hd⟩ := id hl
  obtain ⟨⟨cls2, dd2, data2, sl2⟩, ho2, hc2, n2, hd2⟩ := id hb
  simp only at hc hd hc2 hd2
  subst hc hd hc2 hd2
  refine wpAny_richCompare_same_room (op := .Eq) ⟨_, ho, rfl⟩ ⟨_, ho2, rfl⟩ F.slot_tuple_eq (call_here F.slot_tuple_eq ⟨_, ho, rfl⟩ F.entry_tuple_eq (F.args_tuple_eq_2 _ _) ?_) hu
  exact tuple_eqB (R := wants (fun v s' => v ≠ .notImplemented ∧ Q v s') E) l b items items2 n n2 dd dd2 sl sl2 e I turn (fun s' t q => ⟨(fun x => nomatch x), fin s' t q⟩) (fun s' j h1 h2 hf q => ⟨(fun x => nomatch x), fal s' j h1 h2 hf q⟩) ho ho2 h
end
end GQ

/-! The mirror layer: == of data, Ratios within. -/
namespace Mi
open PySem L2
open PyProof.Rows hiding St
mutual
/-- the datum as RuA has it -/
def toFu : D → Option Fu.D
  | .non => some .non
  | .bl b => some (.bl b)
  | .int i => some (.int i)
  | .str x => some (.str x)
  | .lst l => (toFus l).map .lst
  | .tup l => (toFus l).map .tup
  | .dic ks l => if ks.isEmpty = true then some .dic else none
  | .rat q => some (.rat q.num q.den)
  | .obj _ _ => none
def toFus : List D → Option (List Fu.D)
  | [] => some []
  | d :: l => (toFu d).bind fun x => (toFus l).map fun r => x :: r
end
section
variable {Γ : Ct} {H : Hp}
mutual
theorem toFu_at : ∀ {d : D} {d' : Fu.D} {v : V}, toFu d = some d' → At Γ H d v → Fu.At Γ.R H d' v
  | .non, _, _, e, h => by cases e; exact h
  | .bl b, _, _, e, h => by cases e; exact h
  | .int i, _, _, e, h => by cases e; exact h
  | .str x, _, _, e, h => by cases e; exact h
  | .lst l, _, _, e, h => by
    obtain ⟨l', e', rfl⟩ := Option.map_eq_some_iff.mp e
    obtain ⟨a, xs, hv, ha, hs⟩ := h
    exact ⟨a, xs, hv, ha, toFus_at e' hs⟩
  | .tup l, _, _, e, h => by
    obtain ⟨l', e', rfl⟩ := Option.map_eq_some_iff.mp e
    obtain ⟨a, xs, hv, ha, hs⟩ := h
    exact ⟨a, xs, hv, ha, toFus_at e' hs⟩
  | .dic ks l, _, _, e, h => by
    dsimp only [toFu] at e
    split at e
    · rename_i hk
      cases e
      obtain ⟨a, kvs, hv, ha, hk', _⟩ := h
      have : kvs = [] := by
        rw [List.isEmpty_iff] at hk
        rw [hk] at hk'
        exact List.map_eq_nil_iff.mp hk'
      subst this
      exact ⟨a, hv, ha⟩
    · cases e
  | .rat q, _, _, e, h => by cases e; exact h
theorem toFus_at : ∀ {l : List D} {l' : List Fu.D} {xs : List V}, toFus l = some l' → Ats Γ H l xs → Fu.Ats Γ.R H l' xs
  | [], _, _, e, h => by cases e; exact h
  | d :: l, _, _, e, h => by
    obtain ⟨x, hx, e⟩ := Option.bind_eq_some_iff.mp e
    obtain ⟨r, hr, rfl⟩ := Option.map_eq_some_iff.mp e
    obtain ⟨y, ys, rfl, h1, h2⟩ := h
    exact ⟨y, ys, rfl, toFu_at hx h1, toFus_at hr h2⟩
end
end
def deqR (p : Rat) : D → Bool
  | .rat q => decide (p = q)
  | .int i => decide (p = (i : Rat))
  | _ => false
theorem eqR_deqR {p : Rat} {e : D} {e' : Fu.D} (h : toFu e = some e') : Fu.eqR p.num p.den e' = deqR p e := by
  cases e with
  | rat q =>
    cases h
    show (p.num == q.num && (p.den : Int) == q.den) = decide (p = q)
    rw [Bool.eq_iff_iff, Bool.and_eq_true, beq_iff_eq, beq_iff_eq, decide_eq_true_eq]
    constructor
    · rintro ⟨h1, h2⟩
      exact Rat.ext h1 (by omega)
    · rintro rfl
      exact ⟨rfl, rfl⟩
  | int i =>
    cases h
    show (p.num == i && (p.den : Int) == 1) = decide (p = (i : Rat))
    rw [Bool.eq_iff_iff, Bool.and_eq_true, beq_iff_eq, beq_iff_eq, decide_eq_true_eq]
    constructor
    · rintro ⟨h1, h2⟩
      exact Rat.ext (by rw [h1]; rfl) (by have : (i : Rat).den = 1 := rfl; omega)
    · rintro rfl
      exact ⟨rfl, rfl⟩
  | lst l =>
    obtain ⟨l', _, rfl⟩ := Option.map_eq_some_iff.mp h
    rfl
  | tup l =>
    obtain ⟨l', _, rfl⟩ := Option.map_eq_some_iff.mp h
    rfl
  | dic ks l =>
    dsimp only [toFu] at h
    split at h
    · cases h
      rfl
    · cases h
  | obj c l => cases h
  | _ =>
    cases h
    rfl
theorem nf_D (K : PySem.W.Frag) (C : Addr) (d : Fu.D) : PySem.W.notFirst K C (Fu.tyD C d) = true := by
  have e : ∀ T : String, PySem.W.subIn K (.type T) (.ref C) = some false → PySem.W.notFirst K C (.type T) = true := fun T e => by
    unfold PySem.W.notFirst
    rw [e]
    simp
  cases d with
  | rat n m => simp [Fu.tyD, PySem.W.notFirst]
  | _ => exact e _ (by with_unfolding_all rfl)
section
variable {X : Cx} {Γ : Ct} {A : Around} {pins : List (Addr × Obj)} {σ : St} {H : Hp} {s : Shared} {x y : V} {u v : Value}
def RcOk (X : Cx) (A : Around) (pins : List (Addr × Obj)) (σ : St) (H : Hp) (s : Shared) (u v : Value) (b : Bool) : Prop := wpAny (model X.prog X.w) A (richCompare .Eq u v) (fun r s' => r = .bool b ∧ ∃ H', Inv X pins σ H' s' ∧ Ext H H') X.xe s
def EqOk (X : Cx) (A : Around) (pins : List (Addr × Obj)) (σ : St) (H : Hp) (s : Shared) (u v : Value) (b : Bool) : Prop := wpAny (model X.prog X.w) A (eqBool u v) (fun r s' => r = b ∧ ∃ H', Inv X pins σ H' s' ∧ Ext H H') X.xe s
theorem rcOk_at {b : Bool} (I : Inv X pins σ H s) (h : SeqAt.RcAt A s u v b) : RcOk X A pins σ H s u v b := h X.prog X.w X.xe _ ⟨rfl, H, I, Ext.rfl'⟩
theorem eqOk_at {b : Bool} (I : Inv X pins σ H s) (h : SeqAt.EqAt A s u v b) : EqOk X A pins σ H s u v b := h X.prog X.w X.xe _ ⟨rfl, H, I, Ext.rfl'⟩
theorem eqOk_of {b : Bool} (hne : u ≠ v) (nf : ∀ z t, u ≠ .float z t) (h : RcOk X A pins σ H s u v b) : EqOk X A pins σ H s u v b := by
  unfold EqOk eqBool
  refine wpAny_holding ?_
  refine wpAny_ite_split (fun hab => absurd (eq_of_beq hab) hne) (fun _ => ?_)
  have fin : ∀ (r : Value) (s' : Shared), (r = .bool b ∧ ∃ H', Inv X pins σ H' s' ∧ Ext H H') → wpAny (model X.prog X.w) A (truthOfDropped r) (fun r s' => r = b ∧ ∃ H', Inv X pins σ H' s' ∧ Ext H H') X.xe s' := by
    rintro r s' ⟨rfl, q⟩
    exact wpAny_truthy_bool ⟨rfl, q⟩
  cases u with
  | float z t => exact absurd rfl (nf z t)
  | _ => exact wpAny_bind (wpAny_mono h fin fun _ _ x => x)
/-- a Ratio on the left -/
theorem rc_ratL (O : Fu.RatO X.prog X.w X.K X.mg X.base Γ.R) (sb : Sub X 3 A) (I : Inv X pins σ H s) {p : Rat} {e : D} {e' : Fu.D} (hx : At Γ H (.rat p) x) (rx : RelV x u) (hy : At Γ H e y) (ry : RelV y v) (he : toFu e = some e') : RcOk X A pins σ H s u v (deqR p e) := by
  obtain ⟨f, fd, F, M, b, _⟩ := O.eq
  obtain ⟨a, dx, rfl, ha⟩ := hx
  obtain rfl : u = Value.ref a := rx
  obtain ⟨od, J⟩ := Fu.inst_of I ha
  have ay := toFu_at he hy
  obtain ⟨P, Z, p', _⟩ := kit_of I ry (Fu.ty_at O.r.ci ay)
  obtain ⟨m, hF⟩ := I.fr
  refine PySem.W.cmp_K (op := .Eq) sb.room.units0 hF I.ok.mod.kin J (Z.ty _ _ I.kIn p') (nf_D _ _ _) M.at_ M.fn ?_
  refine thn (Fu.run_at (A := A) (E := E0) (us := [.ref a, v]) (vs := [.ref a, y]) F sb.room (by rw [sb.fr]; exact I.ok.frames) b I (.cons rfl (.cons ry .nil)) (Q := fun w H' => w = .bl (deqR p e) ∧ Ext H H') ⟨a, dx, _, _, e', y, rfl, ha, ay, fun H' s' => ⟨by rw [eqR_deqR he], s'⟩⟩) fun z s' hh => ?_
  obtain ⟨w, H', I', rv, rfl, e1⟩ := hh
  obtain rfl : z = Value.bool _ := rv
  exact ⟨rfl, H', I', e1⟩
/-- a Ratio on the right of another thing -/
theorem rc_ratR (O : Fu.RatO X.prog X.w X.K X.mg X.base Γ.R) (sb : Sub X 3 A) (I : Inv X pins σ H s) {p : Rat} {e : D} {e' : Fu.D} (hx : At Γ H e x) (rx : RelV x u) (hy : At Γ H (.rat p) y) (ry : RelV y v) (he : toFu e = some e') (nr : ∀ q, e ≠ .rat q) : RcOk X A pins σ H s u v (deqR p e) := by
  obtain ⟨f, fd, F, M, b, _⟩ := O.eq
  obtain ⟨a, dx, rfl, ha⟩ := hy
  obtain rfl : v = Value.ref a := ry
  obtain ⟨od, J⟩ := Fu.inst_of I ha
  have hi := J.1
  have ax := toFu_at he hx
  have hin : ∀ T, PySem.W.mroIn X.K Γ.R (.type T) = some false → PySem.W.Looks (model X.prog X.w) s.heap (isInstance (.ref a) (.type T)) false := fun T h => J.type.andThen (PySem.W.looks_mroIn I.kIn h)
  have back : wpAny (model X.prog X.w) A (call (.ref f) [.ref a, u]) (PySem.W.CmpBack fun r s' => r = .bool (deqR p e) ∧ ∃ H', Inv X pins σ H' s' ∧ Ext H H') X.xe s := by
    refine thn (Fu.run_at (A := A) (E := E0) (us := [.ref a, u]) (vs := [.ref a, x]) F sb.room (by rw [sb.fr]; exact I.ok.frames) b I (.cons rfl (.cons rx .nil)) (Q := fun w H' => w = .bl (deqR p e) ∧ Ext H H') ⟨a, dx, _, _, e', x, rfl, ha, ax, fun H' s' => ⟨by rw [eqR_deqR he], s'⟩⟩) fun z s' hh => ?_
    obtain ⟨w, H', I', rv, rfl, e1⟩ := hh
    obtain rfl : z = Value.bool _ := rv
    exact ⟨rfl, H', I', e1⟩
  have hu := sb.room.units0
  show wpAny _ _ (richCompare .Eq u (.ref a)) _ _ _
  cases e with
  | rat q => exact absurd rfl (nr q)
  | obj c l => cases he
  | non =>
    obtain rfl : x = .non := hx
    obtain rfl : u = Value.none := rx
    exact PySem.W.fu_right hu I.kIn J rfl PySem.F.slot_NoneType_eq (O.nb.m _ (by decide)) (fun _ h => PySem.W.fu_dNone h) M.at_ M.fn back
  | bl b =>
    obtain rfl : x = .bl b := hx
    obtain rfl : u = Value.bool b := rx
    exact PySem.W.fu_right hu I.kIn J rfl PySem.F.slot_bool_eq (O.nb.m _ (by decide)) (fun _ h => PySem.W.fu_dBool hi h) M.at_ M.fn back
  | int i =>
    obtain rfl : x = .int i := hx
    obtain ⟨t, rfl⟩ := id rx
    exact PySem.W.fu_right hu I.kIn J (typeIs_int s i t) PySem.F.slot_int_eq (O.nb.m _ (by decide)) (fun _ h => PySem.W.fu_dInt hi h) M.at_ M.fn back
  | str z =>
    obtain rfl : x = .str z := hx
    obtain ⟨t, rfl⟩ := id rx
    exact PySem.W.fu_right hu I.kIn J (typeIs_str s z t) PySem.F.slot_str_eq (O.nb.m _ (by decide)) (fun _ h => PySem.W.fu_dStr hi h) M.at_ M.fn back
  | lst l =>
    obtain ⟨q, xs, rfl, hp, _⟩ := hx
    obtain rfl : u = Value.ref q := rx
    obtain ⟨_, its, n, _, e⟩ := (show ObjOk X.prog X.w H s.heap q (.lst xs) from I.hok q _ hp)
    exact PySem.W.fu_right hu I.kIn J ⟨_, e, rfl⟩ PySem.F.slot_list_eq (O.nb.m _ (by decide)) (fun _ h => PySem.W.fu_dList e rfl (hin _ (O.nb.m _ (by decide))) h) M.at_ M.fn back
  | tup l =>
    obtain ⟨q, xs, rfl, hp, _⟩ := hx
    obtain rfl : u = Value.ref q := rx
    obtain ⟨_, its, _, o, e, hc, _⟩ := (show ObjOk X.prog X.w H s.heap q (.tup xs) from I.hok q _ hp)
    exact PySem.W.fu_right hu I.kIn J ⟨_, e, hc⟩ PySem.F.slot_tuple_eq (O.nb.m _ (by decide)) (fun _ h => PySem.W.fu_dTup e hc (hin _ (O.nb.m _ (by decide))) h) M.at_ M.fn back
  | dic ks l =>
    obtain ⟨q, kvs, rfl, hp, _⟩ := hx
    obtain rfl : u = Value.ref q := rx
    obtain ⟨_, _, _, _, o, _, _, e, hc, _⟩ := (show ObjOk X.prog X.w H s.heap q (.dK kvs) from I.hok q _ hp)
    exact PySem.W.fu_right hu I.kIn J ⟨_, e, hc.1⟩ PySem.F.slot_dict_eq (O.nb.m _ (by decide)) (fun _ h => PySem.W.fu_dDict e hc.1 (hin _ (O.nb.m _ (by decide))) h) M.at_ M.fn back
end
end Mi

/-! The mirror layer: == and != of data. -/
namespace Mi
open PySem L2
open PyProof.Rows hiding St
def isTp : D → Bool
  | .tup _ => true
  | _ => false
def isLt : D → Bool
  | .lst _ => true
  | _ => false
mutual
def deq : D → D → Option Bool
  | .rat p, e => (toFu e).map fun _ => deqR p e
  | .lst l, .lst m => if l.length = m.length then deqs l m else some false
  | .tup l, .tup m => deqs l m
  | .lst l, .rat p => (toFu (.lst l)).map fun _ => false
  | .tup l, .rat p => (toFu (.tup l)).map fun _ => false
  | .lst _, e => if (flatD e || isTp e) = true then some false else none
  | .tup _, e => if (flatD e || isLt e) = true then some false else none
  | d, .rat p => if flatD d = true then some (deqR p d) else none
  | d, e => if flatD d = true then (if flatD e = true then some (eqF d e) else if (isTp e || isLt e) = true then some false else none) else none
def deqs : List D → List D → Option Bool
  | d :: l, e :: m => (deq d e).bind fun b => if b = true then deqs l m else some false
  | [], [] => some true
  | [], _ :: _ => some false
  | _ :: _, [] => some false
end
mutual
def dep : D → Nat
  | .lst l => 1 + deps l
  | .tup l => 1 + deps l
  | _ => 0
def deps : List D → Nat
  | [] => 0
  | d :: l => max (dep d) (deps l)
end
/-- the answer of the i-th two -/
def eAt (l m : List D) (i : Nat) : Bool := (((l[i]?).bind fun d => (m[i]?).bind fun e => deq d e)).getD false
theorem deqs_get : ∀ {l m : List D} {b : Bool}, deqs l m = some b → ∀ {i : Nat} {d e : D}, l[i]? = some d → m[i]? = some e → (∀ j, j < i → eAt l m j = true) → deq d e = some (eAt l m i)
  | d :: l, e :: m, b, h, 0, d', e', h1, h2, _ => by
    cases h1
    cases h2
    obtain ⟨c, hc, _⟩ := Option.bind_eq_some_iff.mp (show (deq d e).bind _ = some b from h)
    unfold eAt
    simp [hc]
  | d :: l, e :: m, b, h, i + 1, d', e', h1, h2, ht => by
    obtain ⟨c, hc, h⟩ := Option.bind_eq_some_iff.mp (show (deq d e).bind (fun b => if b = true then deqs l m else some false) = some b from h)
    have h0 := ht 0 (Nat.succ_pos _)
    unfold eAt at h0
    simp [hc] at h0
    subst h0
    have ih := deqs_get (l := l) (m := m) (b := b) (by simpa using h) (i := i) (d := d') (e := e') (by simpa using h1) (by simpa using h2) fun j hj => by
      have := ht (j + 1) (by omega)
      unfold eAt at this ⊢
      simpa using this
    rw [ih]
    unfold eAt
    simp
  | [], m, _, _, i, _, _, h1, _, _ => by simp at h1
  | _ :: _, [], _, _, i, _, _, _, h2, _ => by simp at h2
theorem deqs_true : ∀ {l m : List D} {b : Bool}, deqs l m = some b → (∀ j, j < l.length → j < m.length → eAt l m j = true) → b = decide (l.length = m.length)
  | [], [], b, h, _ => by
    cases h
    rfl
  | [], _ :: _, b, h, _ => by
    cases h
    simp
  | _ :: _, [], b, h, _ => by
    cases h
    simp
  | d :: l, e :: m, b, h, ht => by
    obtain ⟨c, hc, h⟩ := Option.bind_eq_some_iff.mp (show (deq d e).bind (fun b => if b = true then deqs l m else some false) = some b from h)
    have h0 := ht 0 (by simp) (by simp)
    unfold eAt at h0
    simp [hc] at h0
    subst h0
    have ih := deqs_true (l := l) (m := m) (b := b) (by simpa using h) fun j h1 h2 => by
      have := ht (j + 1) (by simpa using h1) (by simpa using h2)
      unfold eAt at this ⊢
      simpa using this
    rw [ih]
    simp
theorem deqs_false : ∀ {l m : List D} {b : Bool} {j : Nat}, deqs l m = some b → j < l.length → j < m.length → eAt l m j = false → b = false
  | [], _, _, j, _, h1, _, _ => by simp at h1
  | _ :: _, [], _, j, _, _, h2, _ => by simp at h2
  | d :: l, e :: m, b, j, h, h1, h2, hf => by
    obtain ⟨c, hc, h⟩ := Option.bind_eq_some_iff.mp (show (deq d e).bind (fun b => if b = true then deqs l m else some false) = some b from h)
    cases c with
    | false => simpa using h.symm
    | true =>
      cases j with
      | zero =>
        unfold eAt at hf
        simp [hc] at hf
      | succ j =>
        refine deqs_false (l := l) (m := m) (j := j) (by simpa using h) (by simpa using h1) (by simpa using h2) ?_
        unfold eAt at hf ⊢
        simpa using hf
theorem deps_get : ∀ {l : List D} {i : Nat} {d : D}, l[i]? = some d → dep d ≤ deps l
  | d :: l, 0, _, h => by
    cases h
    exact Nat.le_max_left _ _
  | d :: l, i + 1, d', h => by
    have := deps_get (l := l) (i := i) (d := d') (by simpa using h)
    exact Nat.le_trans this (Nat.le_max_right _ _)
theorem Ats.get' {Γ : Ct} {H : Hp} : ∀ {l : List D} {xs : List V} {i : Nat} {x : V}, Ats Γ H l xs → xs[i]? = some x → ∃ d, l[i]? = some d ∧ At Γ H d x
  | [], _, i, x, h, e => by
    obtain rfl := h
    simp at e
  | d :: l, _, 0, x, h, e => by
    obtain ⟨y, r, rfl, h1, _⟩ := h
    cases e
    exact ⟨d, rfl, h1⟩
  | d :: l, _, i + 1, x, h, e => by
    obtain ⟨y, r, rfl, _, h2⟩ := h
    obtain ⟨d', e', a⟩ := Ats.get' (i := i) h2 (by simpa using e)
    exact ⟨d', by simpa using e', a⟩
/-- what a datum's value may be -/
theorem At.form {Γ : Ct} {H : Hp} {d : D} {x : V} (h : At Γ H d x) : x = .non ∨ (∃ b, x = .bl b) ∨ (∃ i, x = .int i) ∨ (∃ z, x = .str z) ∨ ∃ a, x = .ref a := by
  cases d with
  | non => exact .inl h
  | bl b => exact .inr (.inl ⟨b, h⟩)
  | int i => exact .inr (.inr (.inl ⟨i, h⟩))
  | str z => exact .inr (.inr (.inr (.inl ⟨z, h⟩)))
  | lst l =>
    obtain ⟨a, _, e, _⟩ := h
    exact .inr (.inr (.inr (.inr ⟨a, e⟩)))
  | tup l =>
    obtain ⟨a, _, e, _⟩ := h
    exact .inr (.inr (.inr (.inr ⟨a, e⟩)))
  | dic ks l =>
    obtain ⟨a, _, e, _⟩ := h
    exact .inr (.inr (.inr (.inr ⟨a, e⟩)))
  | rat q =>
    obtain ⟨a, _, e, _⟩ := h
    exact .inr (.inr (.inr (.inr ⟨a, e⟩)))
  | obj c l =>
    obtain ⟨a, _, _, e, _⟩ := h
    exact .inr (.inr (.inr (.inr ⟨a, e⟩)))
theorem rel_inj {Γ : Ct} {H : Hp} {d e : D} {x y : V} {u : Value} (h1 : At Γ H d x) (h2 : At Γ H e y) (r1 : RelV x u) (r2 : RelV y u) : x = y := by
  rcases h1.form with rfl | ⟨_, rfl⟩ | ⟨_, rfl⟩ | ⟨_, rfl⟩ | ⟨_, rfl⟩ <;> rcases h2.form with rfl | ⟨_, rfl⟩ | ⟨_, rfl⟩ | ⟨_, rfl⟩ | ⟨_, rfl⟩ <;>
    (simp only [L2.RelV] at r1 r2; grind)
theorem no_float {Γ : Ct} {H : Hp} {d : D} {x : V} {u : Value} (h : At Γ H d x) (r : RelV x u) : ∀ z t, u ≠ .float z t := by
  intro z t q
  subst q
  rcases h.form with rfl | ⟨_, rfl⟩ | ⟨_, rfl⟩ | ⟨_, rfl⟩ | ⟨_, rfl⟩ <;> (simp only [L2.RelV] at r; grind)
theorem rf_inj {p q : Rat} (h : Fu.rf p.num p.den = Fu.rf q.num q.den) : p = q := by
  rw [Fu.rf_eq, Fu.rf_eq] at h
  simp at h
  exact Rat.ext h.1 (by omega)
theorem eqF_self : ∀ {d e : D}, flatD d = true → flatD e = true → toV d = toV e → eqF d e = true := by
  intro d e f g h
  cases d <;> first | (have f' : false = true := f; cases f') | (cases e <;> first | (have g' : false = true := g; cases g') | (cases h; simp [eqF]) | cases h)
theorem flat_ref {Γ : Ct} {H : Hp} {d : D} {a : Addr} (h : At Γ H d (.ref a)) : flatD d = false := by
  cases d <;> first | rfl | cases h
mutual
theorem same_true {Γ : Ct} {H : Hp} : ∀ {d e : D} {v : V} {b : Bool}, At Γ H d v → At Γ H e v → deq d e = some b → b = true
  | .rat p, e, v, b, h1, h2, h => by
    obtain ⟨a, dx, rfl, ha⟩ := h1
    have h' : (toFu e).map (fun _ => deqR p e) = some b := by
      cases e <;> exact h
    obtain ⟨e', he, rfl⟩ := Option.map_eq_some_iff.mp h'
    cases e with
    | rat q =>
      obtain ⟨a', dx', e1, ha'⟩ := h2
      cases e1
      rw [ha] at ha'
      have z : Fu.rf p.num p.den = Fu.rf q.num q.den := by
        injection ha' with w
        injection w
      rw [rf_inj z]
      simp [deqR]
    | lst l =>
      obtain ⟨a', _, e1, ha', _⟩ := h2
      cases e1
      rw [ha] at ha'
      cases ha'
    | tup l =>
      obtain ⟨a', _, e1, ha', _⟩ := h2
      cases e1
      rw [ha] at ha'
      cases ha'
    | dic ks l =>
      obtain ⟨a', _, e1, ha', _⟩ := h2
      cases e1
      rw [ha] at ha'
      cases ha'
    | obj c l => cases he
    | _ => cases h2
  | .lst l, e, v, b, h1, h2, h => by
    obtain ⟨a, xs, rfl, ha, hs⟩ := h1
    cases e with
    | lst m =>
      obtain ⟨a', ys, e1, ha', hs'⟩ := h2
      cases e1
      rw [ha] at ha'
      cases ha'
      have h' : (if l.length = m.length then deqs l m else some false) = some b := h
      rw [if_pos (hs.len.symm.trans hs'.len)] at h'
      exact sames_true hs hs' h'
    | tup m =>
      obtain ⟨a', _, e1, ha', _⟩ := h2
      cases e1
      rw [ha] at ha'
      cases ha'
    | rat q =>
      obtain ⟨a', _, e1, ha'⟩ := h2
      cases e1
      rw [ha] at ha'
      cases ha'
    | dic ks m => cases h
    | obj c m => cases h
    | _ => cases h2
  | .tup l, e, v, b, h1, h2, h => by
    obtain ⟨a, xs, rfl, ha, hs⟩ := h1
    cases e with
    | tup m =>
      obtain ⟨a', ys, e1, ha', hs'⟩ := h2
      cases e1
      rw [ha] at ha'
      cases ha'
      exact sames_true hs hs' h
    | lst m =>
      obtain ⟨a', _, e1, ha', _⟩ := h2
      cases e1
      rw [ha] at ha'
      cases ha'
    | rat q =>
      obtain ⟨a', _, e1, ha'⟩ := h2
      cases e1
      rw [ha] at ha'
      cases ha'
    | dic ks m => cases h
    | obj c m => cases h
    | _ => cases h2
  | .non, e, v, b, h1, h2, h => by
    obtain rfl := h1
    cases e with
    | non => cases h; rfl
    | lst l =>
      obtain ⟨_, _, q, _⟩ := h2
      cases q
    | tup l =>
      obtain ⟨_, _, q, _⟩ := h2
      cases q
    | dic ks l =>
      obtain ⟨_, _, q, _⟩ := h2
      cases q
    | rat z =>
      obtain ⟨_, _, q, _⟩ := h2
      cases q
    | obj z l =>
      obtain ⟨_, _, _, q, _⟩ := h2
      cases q
    | _ => cases h2
  | .bl c, e, v, b, h1, h2, h => by
    obtain rfl := h1
    cases e with
    | bl c' =>
      cases h2
      cases h
      simp [eqF]
    | lst l =>
      obtain ⟨_, _, q, _⟩ := h2
      cases q
    | tup l =>
      obtain ⟨_, _, q, _⟩ := h2
      cases q
    | dic ks l =>
      obtain ⟨_, _, q, _⟩ := h2
      cases q
    | rat z =>
      obtain ⟨_, _, q, _⟩ := h2
      cases q
    | obj z l =>
      obtain ⟨_, _, _, q, _⟩ := h2
      cases q
    | _ => cases h2
  | .int c, e, v, b, h1, h2, h => by
    obtain rfl := h1
    cases e with
    | int c' =>
      cases h2
      cases h
      simp [eqF]
    | lst l =>
      obtain ⟨_, _, q, _⟩ := h2
      cases q
    | tup l =>
      obtain ⟨_, _, q, _⟩ := h2
      cases q
    | dic ks l =>
      obtain ⟨_, _, q, _⟩ := h2
      cases q
    | rat z =>
      obtain ⟨_, _, q, _⟩ := h2
      cases q
    | obj z l =>
      obtain ⟨_, _, _, q, _⟩ := h2
      cases q
    | _ => cases h2
  | .str c, e, v, b, h1, h2, h => by
    obtain rfl := h1
    cases e with
    | str c' =>
      cases h2
      cases h
      simp [eqF]
    | lst l =>
      obtain ⟨_, _, q, _⟩ := h2
      cases q
    | tup l =>
      obtain ⟨_, _, q, _⟩ := h2
      cases q
    | dic ks l =>
      obtain ⟨_, _, q, _⟩ := h2
      cases q
    | rat z =>
      obtain ⟨_, _, q, _⟩ := h2
      cases q
    | obj z l =>
      obtain ⟨_, _, _, q, _⟩ := h2
      cases q
    | _ => cases h2
  | .dic ks l, e, v, b, h1, h2, h => by cases e <;> cases h
  | .obj c l, e, v, b, h1, h2, h => by cases e <;> cases h
theorem sames_true {Γ : Ct} {H : Hp} : ∀ {l m : List D} {xs : List V} {b : Bool}, Ats Γ H l xs → Ats Γ H m xs → deqs l m = some b → b = true
  | [], [], _, b, _, _, h => by
    cases h
    rfl
  | [], _ :: _, _, b, h1, h2, h => by
    obtain rfl := h1
    obtain ⟨_, _, q, _⟩ := h2
    cases q
  | _ :: _, [], _, b, h1, h2, h => by
    obtain rfl := h2
    obtain ⟨_, _, q, _⟩ := h1
    cases q
  | d :: l, e :: m, _, b, h1, h2, h => by
    obtain ⟨x, r, rfl, g1, g2⟩ := h1
    obtain ⟨y, r', q, k1, k2⟩ := h2
    cases q
    obtain ⟨c, hc, h⟩ := Option.bind_eq_some_iff.mp (show (deq d e).bind (fun b => if b = true then deqs l m else some false) = some b from h)
    have := same_true g1 k1 hc
    subst this
    exact sames_true g2 k2 (by simpa using h)
end
end Mi

/-! The mirror layer: == of data, all kinds. -/
namespace Mi
open PySem L2
open PyProof.Rows hiding St
section
variable {X : Cx} {Γ : Ct}
theorem rcAt_V {A : Around} {s : Shared} {d e : D} {u v : Value} (f : flatD d = true) (g : flatD e = true) (ru : RelV (toV d) u) (rv : RelV (toV e) v) : SeqAt.RcAt A s u v (eqF d e) := by
  cases d with
  | non =>
    obtain rfl : u = .none := ru
    cases e with
    | non => obtain rfl : v = .none := rv; exact SeqAt.RcAt.none_none
    | bl b => obtain rfl : v = .bool b := rv; exact SeqAt.RcAt.none_bool b
    | int b => obtain ⟨t, rfl⟩ := rv; exact SeqAt.RcAt.none_int b t
    | str b => obtain ⟨t, rfl⟩ := rv; exact SeqAt.RcAt.none_str b t
    | _ => cases g
  | bl a =>
    obtain rfl : u = .bool a := ru
    cases e with
    | non => obtain rfl : v = .none := rv; exact SeqAt.RcAt.bool_none a
    | bl b => obtain rfl : v = .bool b := rv; exact SeqAt.RcAt.bool_bool a b
    | int b => obtain ⟨t, rfl⟩ := rv; exact SeqAt.RcAt.bool_int a b t
    | str b => obtain ⟨t, rfl⟩ := rv; exact SeqAt.RcAt.bool_str a b t
    | _ => cases g
  | int a =>
    obtain ⟨t0, rfl⟩ := ru
    cases e with
    | non => obtain rfl : v = .none := rv; exact SeqAt.RcAt.int_none a t0
    | bl b => obtain rfl : v = .bool b := rv; exact SeqAt.RcAt.int_bool a t0 b
    | int b => obtain ⟨t, rfl⟩ := rv; exact SeqAt.RcAt.int_int a t0 b t
    | str b => obtain ⟨t, rfl⟩ := rv; exact SeqAt.RcAt.int_str a t0 b t
    | _ => cases g
  | str a =>
    obtain ⟨t0, rfl⟩ := ru
    cases e with
    | non => obtain rfl : v = .none := rv; exact SeqAt.RcAt.str_none a t0
    | bl b => obtain rfl : v = .bool b := rv; exact SeqAt.RcAt.str_bool a t0 b
    | int b => obtain ⟨t, rfl⟩ := rv; exact SeqAt.RcAt.str_int a t0 b t
    | str b => obtain ⟨t, rfl⟩ := rv; exact SeqAt.RcAt.str_str a t0 b t
    | _ => cases g
  | _ => cases f
theorem rcAt_FL {A : Around} {s : Shared} {d : D} {u : Value} {q : Addr} {items : Array Value} (hu : A.units < cLine) (f : flatD d = true) (ru : RelV (toV d) u) (h : s.heap.IsList q items) : SeqAt.RcAt A s u (.ref q) false ∧ SeqAt.RcAt A s (.ref q) u false := by
  cases d with
  | non => obtain rfl : u = .none := ru; exact ⟨SeqAt.RcAt.none_list h hu, SeqAt.RcAt.list_none h hu⟩
  | bl b => obtain rfl : u = .bool b := ru; exact ⟨SeqAt.RcAt.bool_list b h hu, SeqAt.RcAt.list_bool b h hu⟩
  | int i => obtain ⟨t, rfl⟩ := ru; exact ⟨SeqAt.RcAt.int_list i t h hu, SeqAt.RcAt.list_int i t h hu⟩
  | str z => obtain ⟨t, rfl⟩ := ru; exact ⟨SeqAt.RcAt.str_list z t h hu, SeqAt.RcAt.list_str z t h hu⟩
  | _ => cases f
theorem rcAt_FT {A : Around} {s : Shared} {d : D} {u : Value} {q : Addr} {items : Array Value} (hu : A.units < cLine) (f : flatD d = true) (ru : RelV (toV d) u) (h : s.heap.IsTuple q items) : SeqAt.RcAt A s u (.ref q) false ∧ SeqAt.RcAt A s (.ref q) u false := by
  cases d with
  | non => obtain rfl : u = .none := ru; exact ⟨SeqAt.RcAt.none_tuple h hu, SeqAt.RcAt.tuple_none h hu⟩
  | bl b => obtain rfl : u = .bool b := ru; exact ⟨SeqAt.RcAt.bool_tuple b h hu, SeqAt.RcAt.tuple_bool b h hu⟩
  | int i => obtain ⟨t, rfl⟩ := ru; exact ⟨SeqAt.RcAt.int_tuple i t h hu, SeqAt.RcAt.tuple_int i t h hu⟩
  | str z => obtain ⟨t, rfl⟩ := ru; exact ⟨SeqAt.RcAt.str_tuple z t h hu, SeqAt.RcAt.tuple_str z t h hu⟩
  | _ => cases f
/-- what a rich comparison of d and e promises, at depth n -/
def RcD (X : Cx) (Γ : Ct) (n : Nat) : Prop := ∀ {d e : D} {b : Bool}, dep d ≤ n → deq d e = some b → ∀ {A : Around} {pins : List (Addr × Obj)} {σ : St} {H : Hp} {s : Shared} {x y : V} {u v : Value}, Sub X (n + 3) A → Inv X pins σ H s → At Γ H d x → RelV x u → At Γ H e y → RelV y v → RcOk X A pins σ H s u v b
theorem RcD.eq {n : Nat} (h : RcD X Γ n) {d e : D} {b : Bool} (hd : dep d ≤ n) (he : deq d e = some b) {A : Around} {pins : List (Addr × Obj)} {σ : St} {H : Hp} {s : Shared} {x y : V} {u v : Value} (sb : Sub X (n + 3) A) (I : Inv X pins σ H s) (hx : At Γ H d x) (rx : RelV x u) (hy : At Γ H e y) (ry : RelV y v) : EqOk X A pins σ H s u v b := by
  by_cases q : u = v
  · subst q
    have := rel_inj hx hy rx ry
    subst this
    have := same_true hx hy he
    subst this
    exact eqOk_at I (SeqAt.EqAt.same u)
  · exact eqOk_of q (no_float hx rx) (h hd he sb I hx rx hy ry)
/-- the two i-th items -/
theorem turnB {n : Nat} (h : RcD X Γ n) {l m : List D} {b : Bool} (hl : deps l ≤ n) (he : deqs l m = some b) {A : Around} (sb : Sub X (n + 1 + 3) A) {pins : List (Addr × Obj)} {σ : St} {H : Hp} {xs ys : List V} {its its2 : List Value} (hx : Ats Γ H l xs) (hy : Ats Γ H m ys) (r : Vals xs its) (r2 : Vals ys its2)
    (i : Nat) (h1 : i < its.toArray.size) (h2 : i < its2.toArray.size) (s' : Shared) (I : LoopI X pins σ H s') (ht : ∀ j, j < i → eAt l m j = true) :
    wpAny (model X.prog X.w) A.in1 (eqBool its.toArray[i] its2.toArray[i]) (fun r s2 => r = eAt l m i ∧ LoopI X pins σ H s2) X.xe s' := by
  obtain ⟨H1, I1, e1⟩ := I
  have g1 : its[i]? = some its.toArray[i] := by
    have h1' : i < its.length := by simpa using h1
    rw [List.getElem?_eq_getElem h1'] <;> simp
  have g2 : its2[i]? = some its2.toArray[i] := by
    have h2' : i < its2.length := by simpa using h2
    rw [List.getElem?_eq_getElem h2'] <;> simp
  have k1 : i < xs.length := by rw [r.length]; simpa using h1
  have k2 : i < ys.length := by rw [r2.length]; simpa using h2
  obtain ⟨u, hu, ru⟩ := r.get (List.getElem?_eq_getElem k1)
  obtain ⟨v, hv, rv⟩ := r2.get (List.getElem?_eq_getElem k2)
  rw [g1] at hu
  rw [g2] at hv
  rw [Option.some.inj hu, Option.some.inj hv]
  obtain ⟨d, hd, ad⟩ := hx.get' (List.getElem?_eq_getElem k1)
  obtain ⟨e, hee, ae⟩ := hy.get' (List.getElem?_eq_getElem k2)
  have q := h.eq (Nat.le_trans (deps_get hd) hl) (deqs_get he hd hee ht) (A := A.in1) (Sub.in1 (n := n + 3) (by have := sb; rw [show n + 1 + 3 = n + 3 + 1 by omega] at this; exact this)) I1 (ad.ex e1) ru (ae.ex e1) rv
  refine wpAny_mono q (fun r s2 z => ?_) fun _ _ x => x
  obtain ⟨hr, H2, I2, e2⟩ := z
  exact ⟨hr, H2, I2, e1.trans e2⟩
theorem rcD_step (O : Fu.RatO X.prog X.w X.K X.mg X.base Γ.R) {n : Nat} (ih : ∀ k, n = k + 1 → RcD X Γ k) : RcD X Γ n := by
  intro d e b hd he A pins σ H s x y u v sb I hx rx hy ry
  have sb3 : Sub X 3 A := sb.mono (by omega)
  have hu := sb.room.units0
  have isL : ∀ {q : Addr} {xs : List V}, H q = some (.lst xs) → ∃ its, s.heap.IsList q its := fun h => by
    obtain ⟨its, r, pl, hz⟩ := I.list (SqL.of h)
    exact ⟨_, pl.isList⟩
  have isT : ∀ {q : Addr} {xs : List V}, H q = some (.tup xs) → ∃ its, s.heap.IsTuple q its := fun h => by
    obtain ⟨its, r, pl, hz⟩ := I.tuple (SqT.of h)
    exact ⟨_, pl⟩
  have flatC : ∀ (d e : D) (b : Bool), flatD d = true → At Γ H d x → At Γ H e y → (if flatD d = true then (if flatD e = true then some (eqF d e) else if (isTp e || isLt e) = true then some false else none) else none) = some b → RcOk X A pins σ H s u v b := by
    intro d e b f hx hy h
    rw [if_pos f] at h
    have ex := flat_atM hx f
    subst ex
    split at h
    · rename_i g
      cases h
      have ey := flat_atM hy g
      subst ey
      exact rcOk_at I (rcAt_V f g rx ry)
    · split at h
      · rename_i z
        cases h
        cases e with
        | lst m =>
          obtain ⟨q, ys, rfl, hq, _⟩ := hy
          obtain rfl : v = .ref q := ry
          obtain ⟨its, hi⟩ := isL hq
          exact rcOk_at I (rcAt_FL hu f rx hi).1
        | tup m =>
          obtain ⟨q, ys, rfl, hq, _⟩ := hy
          obtain rfl : v = .ref q := ry
          obtain ⟨its, hi⟩ := isT hq
          exact rcOk_at I (rcAt_FT hu f rx hi).1
        | _ => cases z
      · cases h
  have ratC : ∀ (d : D) (p : Rat) (b : Bool), flatD d = true → (if flatD d = true then some (deqR p d) else none) = some b → At Γ H d x → At Γ H (.rat p) y → RcOk X A pins σ H s u v b := by
    intro d p b f h hx hy
    rw [if_pos f] at h
    cases h
    have : ∃ d', toFu d = some d' := by
      cases d <;> first | exact ⟨_, rfl⟩ | cases f
    obtain ⟨d', h'⟩ := this
    exact rc_ratR O sb3 I hx rx hy ry h' fun q z => by
      subst z
      cases f
  cases d with
  | rat p =>
    have h' : (toFu e).map (fun _ => deqR p e) = some b := by cases e <;> exact he
    obtain ⟨e', h1, rfl⟩ := Option.map_eq_some_iff.mp h'
    exact rc_ratL O sb3 I hx rx hy ry h1
  | lst l =>
    cases e with
    | lst m =>
      obtain ⟨q, xs, rfl, hq, hs⟩ := hx
      obtain ⟨q', ys, rfl, hq', hs'⟩ := hy
      obtain rfl : u = .ref q := rx
      obtain rfl : v = .ref q' := ry
      have h' : (if l.length = m.length then deqs l m else some false) = some b := he
      obtain ⟨k, rfl⟩ : ∃ k, n = k + 1 := ⟨n - 1, by have : 1 + deps l ≤ n := hd; omega⟩
      have hdl : deps l ≤ k := by have : 1 + deps l ≤ k + 1 := hd; omega
      split at h'
      · rename_i hl
        refine GQ.rc_listB (N := xs.length) (e := eAt l m) hu (fun s' => LoopI X pins σ H s') (fun i s' w ht => ?_) (fun s' t w => ⟨?_, w⟩) (fun s' j hj hf w => ⟨?_, w⟩) ⟨H, I, Ext.rfl'⟩
        · obtain ⟨H1, I1, e1⟩ := id w
          obtain ⟨z, its, c, r, e⟩ := I1.hok q _ (e1 _ _ hq)
          obtain ⟨z2, its2, c2, r2, e2⟩ := I1.hok q' _ (e1 _ _ hq')
          refine ⟨its.toArray, its2.toArray, c, c2, e, e2, by rw [List.size_toArray, ← r.length], by rw [List.size_toArray, ← r2.length, hs.len, hs'.len, hl], fun h1 h2 => ?_⟩
          exact turnB (ih k rfl) hdl h' sb hs hs' r r2 i h1 h2 s' w ht
        · rw [deqs_true h' fun j h1 h2 => t j (by rw [hs.len]; exact h1), decide_eq_true hl]
        · rw [hs.len] at hj
          rw [deqs_false h' hj (by omega) hf]
      · rename_i hl
        cases h'
        obtain ⟨its, r, pl, _⟩ := I.list (SqL.of hq)
        obtain ⟨its2, r2, pl2, _⟩ := I.list (SqL.of hq')
        refine rcOk_at I (SeqAt.RcAt.lists_lengths pl.isList pl2.isList ?_ hu)
        rw [List.size_toArray, List.size_toArray, ← r.length, ← r2.length, hs.len, hs'.len]
        simpa using hl
    | tup m =>
      cases he
      obtain ⟨q, xs, rfl, hq, hs⟩ := hx
      obtain ⟨q', ys, rfl, hq', hs'⟩ := hy
      obtain rfl : u = .ref q := rx
      obtain rfl : v = .ref q' := ry
      obtain ⟨its, h1⟩ := isL hq
      obtain ⟨its2, h2⟩ := isT hq'
      exact rcOk_at I (SeqAt.RcAt.list_tuple h1 h2 hu)
    | rat p =>
      obtain ⟨d', h1, rfl⟩ := Option.map_eq_some_iff.mp (show (toFu (.lst l)).map (fun _ => false) = some b from he)
      exact rc_ratR (e := .lst l) O sb3 I hx rx hy ry h1 fun q z => by cases z
    | dic ks m => cases he
    | obj c m => cases he
    | _ =>
      cases he
      obtain ⟨q, xs, rfl, hq, hs⟩ := hx
      obtain rfl : u = .ref q := rx
      obtain ⟨its, h1⟩ := isL hq
      have ey := flat_atM hy rfl
      subst ey
      exact rcOk_at I (rcAt_FL hu rfl ry h1).2
  | tup l =>
    cases e with
    | tup m =>
      obtain ⟨q, xs, rfl, hq, hs⟩ := hx
      obtain ⟨q', ys, rfl, hq', hs'⟩ := hy
      obtain rfl : u = .ref q := rx
      obtain rfl : v = .ref q' := ry
      have h' : deqs l m = some b := he
      obtain ⟨k, rfl⟩ : ∃ k, n = k + 1 := ⟨n - 1, by have : 1 + deps l ≤ n := hd; omega⟩
      have hdl : deps l ≤ k := by have : 1 + deps l ≤ k + 1 := hd; omega
      obtain ⟨its, r, pl, _⟩ := I.tuple (SqT.of hq)
      obtain ⟨its2, r2, pl2, _⟩ := I.tuple (SqT.of hq')
      have z1 : its.toArray.size = l.length := by rw [List.size_toArray, ← r.length, hs.len]
      have z2 : its2.toArray.size = m.length := by rw [List.size_toArray, ← r2.length, hs'.len]
      refine GQ.rc_tupB (e := eAt l m) hu (fun s' => LoopI X pins σ H s') pl pl2 (fun i h1 h2 s' w ht => turnB (ih k rfl) hdl h' sb hs hs' r r2 i h1 h2 s' w ht) (fun s' t w => ⟨?_, w⟩) (fun s' j h1 h2 hf w => ⟨?_, w⟩) ⟨H, I, Ext.rfl'⟩
      · rw [deqs_true h' fun j h1 h2 => t j (by omega) (by omega), z1, z2]
        congr 1
      · rw [deqs_false h' (by omega) (by omega) hf]
    | lst m =>
      cases he
      obtain ⟨q, xs, rfl, hq, hs⟩ := hx
      obtain ⟨q', ys, rfl, hq', hs'⟩ := hy
      obtain rfl : u = .ref q := rx
      obtain rfl : v = .ref q' := ry
      obtain ⟨its, h1⟩ := isT hq
      obtain ⟨its2, h2⟩ := isL hq'
      exact rcOk_at I (SeqAt.RcAt.tuple_list h1 h2 hu)
    | rat p =>
      obtain ⟨d', h1, rfl⟩ := Option.map_eq_some_iff.mp (show (toFu (.tup l)).map (fun _ => false) = some b from he)
      exact rc_ratR (e := .tup l) O sb3 I hx rx hy ry h1 fun q z => by cases z
    | dic ks m => cases he
    | obj c m => cases he
    | _ =>
      cases he
      obtain ⟨q, xs, rfl, hq, hs⟩ := hx
      obtain rfl : u = .ref q := rx
      obtain ⟨its, h1⟩ := isT hq
      have ey := flat_atM hy rfl
      subst ey
      exact rcOk_at I (rcAt_FT hu rfl ry h1).2
  | dic ks l => cases e <;> cases he
  | obj c l => cases e <;> cases he
  | non =>
    cases e with
    | rat p => exact ratC .non p b rfl he hx hy
    | _ => exact flatC .non _ b rfl hx hy he
  | bl z =>
    cases e with
    | rat p => exact ratC (.bl z) p b rfl he hx hy
    | _ => exact flatC (.bl z) _ b rfl hx hy he
  | int z =>
    cases e with
    | rat p => exact ratC (.int z) p b rfl he hx hy
    | _ => exact flatC (.int z) _ b rfl hx hy he
  | str z =>
    cases e with
    | rat p => exact ratC (.str z) p b rfl he hx hy
    | _ => exact flatC (.str z) _ b rfl hx hy he
theorem rcD_all (O : Fu.RatO X.prog X.w X.K X.mg X.base Γ.R) : ∀ n, RcD X Γ n
  | 0 => rcD_step O fun k h => by cases h
  | n + 1 => rcD_step O fun k h => by
    cases h
    exact rcD_all O n
end
end Mi

/-! != of lists and tuples; == and != as rules of the mirror layer. (The first part is printed by mip.py.) -/
namespace GQ
open PySem PySem.SeqAt
open AutoSeq1 (wpAny_loadPart')
open MeetsSeq MeetsSeq2 MeetsSeq3 SeqRoads2
section
variable {prog : Program} {w : World} {A : Around} {R : Result → Shared → Prop}
theorem ne_loopB (l b : Addr) (N : Nat) (e : Nat → Bool) (I : Shared → Prop) (hl : ListB prog w A (fun e s' => R (.error e) s') l b N e I)
    (fin : ∀ s, (∀ j, j < N → e j = true) → I s → R (.ok (.ret (.bool false))) s) (fal : ∀ s j, j < N → e j = false → I s → R (.ok (.ret (.bool true))) s) (k : Nat) :
    ∀ i : Nat, N - i = k → i ≤ N → (∀ j, j < i → e j = true) → ∀ s, I s →
      wpAny (model prog w) A.in1 (Builtin.«list.__eq__.loop» ⟨[.ref l, .ref b, rawInt i, rawInt 3], []⟩) (FinOf prog w A R) (fun e s' => R (.error e) s') s := by
  induction k with
  | zero =>
    intro i hk hi ht s h
    obtain ⟨items, items2, n, n2, hl1, hb1, hs1, hs2, _⟩ := hl i _ h ht
    have hi' : i = N := by omega
    have hR : R (.ok (.ret (.bool false))) s := fin s (hi' ▸ ht) h
    obtain ⟨hp, g, d, tk, os⟩ := s
    wp_walk using wpAny_loadPart' hl1, wpAny_loadPart' hb1
    have hi1 : items[((i : Nat) : Int).toNat]? = none := by simp; omega
    have hi2 : items2[((i : Nat) : Int).toNat]? = none := by simp; omega
    rw [hi1, hi2]
    wp_walk using wpAny_loadPart' hl1, wpAny_loadPart' hb1
    show R (.ok (.ret (.bool (items.size != items2.size)))) _
    rw [hs1, hs2]
    simpa using hR
  | succ k ih =>
    intro i hk hi ht s h
    obtain ⟨items, items2, n, n2, hl1, hb1, hs1, hs2, turn⟩ := hl i _ h ht
    have hlt : i < items.size := by omega
    have hlt2 : i < items2.size := by omega
    have hu := turn hlt hlt2
    obtain ⟨hp, g, d, tk, os⟩ := s
    wp_walk using wpAny_loadPart' hl1, wpAny_loadPart' hb1
    have hi1 : items[((i : Nat) : Int).toNat]? = some items[i] := by simp [hlt]
    have hi2 : items2[((i : Nat) : Int).toNat]? = some items2[i] := by simp [hlt2]
    have hc : ((i : Int) + 1) = ((i + 1 : Nat) : Int) := by omega
    rw [hi1, hi2]
    refine wpAny_bind (wpAny_mono hu (fun r s2 h2 => ?_) fun _ _ x => x)
    obtain ⟨hr, h2⟩ := h2
    cases he : e i with
    | true =>
      rw [he] at hr
      subst hr
      have hrec := ih (i + 1) (by omega) (by omega) (fun j hj => by
        by_cases z : j = i
        · rw [z]; exact he
        · exact ht j (by omega)) s2 h2
      obtain ⟨hp2, g2, d2, tk2, os2⟩ := s2
      wp_walk
      rw [hc]
      exact ⟨plainId_quiet plain_eq_loop _, codeAny_builtin entry_eq_loop (by
        rw [Around.under_plainId plain_eq_loop _]
        exact hrec)⟩
    | false =>
      rw [he] at hr
      subst hr
      have hR := fal s2 i (by omega) he h2
      obtain ⟨its, its2, m, m2, kl1, kb1, ks1, ks2, _⟩ := hl i _ h2 ht
      obtain ⟨hp2, g2, d2, tk2, os2⟩ := s2
      wp_walk using wpAny_loadPart' kl1, wpAny_loadPart' kb1
      have ki1 : its[((i : Nat) : Int).toNat]? = some (its[i]'(by omega)) := by simp
      have ki2 : its2[((i : Nat) : Int).toNat]? = some (its2[i]'(by omega)) := by simp [ks2]
      rw [ki1, ki2]
      wp_walk
      exact hR

theorem list_neB (l b : Addr) (N : Nat) (e : Nat → Bool) (I : Shared → Prop) (hl : ListB prog w A (fun e s' => R (.error e) s') l b N e I)
    (fin : ∀ s, (∀ j, j < N → e j = true) → I s → R (.ok (.ret (.bool false))) s) (fal : ∀ s j, j < N → e j = false → I s → R (.ok (.ret (.bool true))) s) {s : Shared} (h : I s) :
    wpAny (model prog w) A.in1 (Builtin.«list.__ne__» ⟨[.ref l, .ref b], []⟩) (FinOf prog w A R) (fun e s' => R (.error e) s') s := by
  obtain ⟨items, items2, n, n2, hl1, hb1, hs1, hs2, _⟩ := hl 0 _ h (fun j hj => absurd hj (Nat.not_lt_zero j))
  have hrec := ne_loopB (A := A) (R := R) l b N e I hl fin fal _ 0 rfl (Nat.zero_le _) (fun j hj => absurd hj (Nat.not_lt_zero j)) s h
  obtain ⟨hp, g, d, tk, os⟩ := s
  have f3 := AutoSeq1.sub_list_list
  have hne : ¬ (items.size != items2.size) = true := by simp [hs1, hs2]
  wp_walk using wpAny_loadPart' hl1, wpAny_loadPart' hb1
  exact ⟨plainId_quiet plain_eq_loop _, codeAny_builtin entry_eq_loop (by
    rw [Around.under_plainId plain_eq_loop _]
    exact hrec)⟩
/-- two tuples: the items are asked in turn, then the lengths -/
theorem tuple_neB (l b : Addr) (items items2 : Array Value) (n n2 : Nat) (dd dd2 : Option Addr) (sl sl2 : Array (Option Value)) (e : Nat → Bool) (I : Shared → Prop)
    (turn : ∀ i (h1 : i < items.size) (h2 : i < items2.size) s, I s → (∀ j, j < i → e j = true) → wpAny (model prog w) A.in1 (eqBool items[i] items2[i]) (fun r s' => r = e i ∧ I s') (fun e s' => R (.error e) s') s)
    (fin : ∀ s, (∀ j, j < items.size → j < items2.size → e j = true) → I s → R (.ok (.ret (.bool (items.size != items2.size)))) s) (fal : ∀ s j, j < items.size → j < items2.size → e j = false → I s → R (.ok (.ret (.bool true))) s)
    {s : Shared} (hl1 : s.heap.get? l = some { cls := .type "tuple", dict := dd, data := .seq items n, slots := sl }) (hb1 : s.heap.get? b = some { cls := .type "tuple", dict := dd2, data := .seq items2 n2, slots := sl2 }) (h : I s) :
    wpAny (model prog w) A.in1 (Builtin.«tuple.__ne__» ⟨[.ref l, .ref b], []⟩) (FinOf prog w A R) (fun e s' => R (.error e) s') s := by
  have f2 := AutoSeq1.sub_tuple_tuple
  have hZ : (items.toList.zip items2.toList).length = min items.size items2.size := by simp
  have h0 := h
  obtain ⟨hp, g, d, tk, os⟩ := s
  wp_walk using wpAny_loadPart' hl1, wpAny_loadPart' hb1, wpAny_forIn_list _ (fun rest b s' => b.1 = none ∧ I s' ∧ ∃ i, rest = (items.toList.zip items2.toList).drop i ∧ ∀ j, j < i → e j = true) _
  case turn =>
    rintro ⟨y, x⟩ rest b s' ⟨hb', hI, i, hz, ht⟩
    have hlt : i < (items.toList.zip items2.toList).length := by
      rcases Nat.lt_or_ge i (items.toList.zip items2.toList).length with h' | h'
      · exact h'
      · rw [List.drop_of_length_le h'] at hz; cases hz
    have hm : i < min items.size items2.size := hZ ▸ hlt
    have h1 : i < items.size := Nat.lt_of_lt_of_le hm (Nat.min_le_left _ _)
    have h2 : i < items2.size := Nat.lt_of_lt_of_le hm (Nat.min_le_right _ _)
    rw [List.drop_eq_getElem_cons hlt] at hz
    injection hz with hyx hrest
    have hy : y = items[i] := by have := congrArg Prod.fst hyx; simpa using this
    have hx : x = items2[i] := by have := congrArg Prod.snd hyx; simpa using this
    subst hy hx
    refine wpAny_bind (wpAny_mono (turn i h1 h2 s' hI ht) (fun r s2 q2 => ?_) fun _ _ x => x)
    obtain ⟨hr, q2⟩ := q2
    cases he : e i with
    | true =>
      rw [he] at hr
      subst hr
      wp_walk
      refine ⟨rfl, q2, i + 1, hrest, fun j hj => ?_⟩
      by_cases z : j = i
      · rw [z]; exact he
      · exact ht j (by omega)
    | false =>
      rw [he] at hr
      subst hr
      have hR := fal s2 i h1 h2 he q2
      wp_walk
      exact hR
  case fin =>
    rintro ⟨b1, b2⟩ s' ⟨hb', hI, i, hz, ht⟩
    simp only at hb'
    subst hb'
    have hge : min items.size items2.size ≤ i := by
      rcases Nat.lt_or_ge i (items.toList.zip items2.toList).length with h' | h'
      · rw [List.drop_eq_getElem_cons h'] at hz; cases hz
      · exact hZ ▸ h'
    have hR := fin s' (fun j h1 h2 => ht j (by omega)) hI
    wp_walk
    simpa [Builtin.Tuple.tupleCompareSizes, bne] using hR
  case h =>
    exact ⟨rfl, h0, 0, rfl, fun j hj => absurd hj (Nat.not_lt_zero j)⟩
end
section
variable {prog : Program} {w : World} {A : Around} {E : Value → Shared → Prop} {s : Shared}
theorem rcn_listB {l b : Addr} {N : Nat} {e : Nat → Bool} {Q : Value → Shared → Prop} (hu : A.units < cLine) (I : Shared → Prop) (hl : ListB prog w A E l b N e I)
    (fin : ∀ s, (∀ j, j < N → e j = true) → I s → Q (.bool false) s) (fal : ∀ s j, j < N → e j = false → I s → Q (.bool true) s) (h : I s) : wpAny (model prog w) A (richCompare .NotEq (.ref l) (.ref b)) Q E s := by
  obtain ⟨items, items2, n, n2, hl1, hb1, _, _, _⟩ := hl 0 _ h (fun j hj => absurd hj (Nat.not_lt_zero j))
  refine wpAny_richCompare_same_room (op := .NotEq) ⟨_, hl1, rfl⟩ ⟨_, hb1, rfl⟩ F.slot_list_ne (call_here F.slot_list_ne ⟨_, hl1, rfl⟩ F.entry_list_ne (F.args_list_ne_2 _ _) ?_) hu
  exact list_neB (R := wants (fun v s' => v ≠ .notImplemented ∧ Q v s') E) l b N e I hl (fun s' t q => ⟨(fun x => nomatch x), fin s' t q⟩) (fun s' j hj hf q => ⟨(fun x => nomatch x), fal s' j hj hf q⟩) h
theorem rcn_tupB {l b : Addr} {items items2 : Array Value} {e : Nat → Bool} {Q : Value → Shared → Prop} (hu : A.units < cLine) (I : Shared → Prop) (hl : s.heap.IsTuple l items) (hb : s.heap.IsTuple b items2)
    (turn : ∀ i (h1 : i < items.size) (h2 : i < items2.size) s, I s → (∀ j, j < i → e j = true) → wpAny (model prog w) A.in1 (eqBool items[i] items2[i]) (fun r s' => r = e i ∧ I s') E s)
    (fin : ∀ s, (∀ j, j < items.size → j < items2.size → e j = true) → I s → Q (.bool (items.size != items2.size)) s) (fal : ∀ s j, j < items.size → j < items2.size → e j = false → I s → Q (.bool true) s) (h : I s) : wpAny (model prog w) A (richCompare .NotEq (.ref l) (.ref b)) Q E s := by
  obtain ⟨⟨cls, dd, data, sl⟩, ho, hc, n, hd⟩ := id hl
  obtain ⟨⟨cls2, dd2, data2, sl2⟩, ho2, hc2, n2, hd2⟩ := id hb
  simp only at hc hd hc2 hd2
  subst hc hd hc2 hd2
  refine wpAny_richCompare_same_room (op := .NotEq) ⟨_, ho, rfl⟩ ⟨_, ho2, rfl⟩ F.slot_tuple_ne (call_here F.slot_tuple_ne ⟨_, ho, rfl⟩ F.entry_tuple_ne (F.args_tuple_ne_2 _ _) ?_) hu
  exact tuple_neB (R := wants (fun v s' => v ≠ .notImplemented ∧ Q v s') E) l b items items2 n n2 dd dd2 sl sl2 e I turn (fun s' t q => ⟨(fun x => nomatch x), fin s' t q⟩) (fun s' j h1 h2 hf q => ⟨(fun x => nomatch x), fal s' j h1 h2 hf q⟩) ho ho2 h
end
end GQ

/-! The mirror layer: != of data; == and != as rules. -/
namespace Mi
open PySem L2
open PyProof.Rows hiding St
section
variable {X : Cx} {Γ : Ct}
def RnOk (X : Cx) (A : Around) (pins : List (Addr × Obj)) (σ : St) (H : Hp) (s : Shared) (u v : Value) (b : Bool) : Prop := wpAny (model X.prog X.w) A (richCompare .NotEq u v) (fun r s' => r = .bool b ∧ ∃ H', Inv X pins σ H' s' ∧ Ext H H') X.xe s
theorem rnOk_at {A : Around} {pins : List (Addr × Obj)} {σ : St} {H : Hp} {s : Shared} {u v : Value} {b : Bool} (I : Inv X pins σ H s) (h : SeqAt.RcNeAt A s u v b) : RnOk X A pins σ H s u v b := h X.prog X.w X.xe _ ⟨rfl, H, I, Ext.rfl'⟩
theorem rnAt_V {A : Around} {s : Shared} {d e : D} {u v : Value} (f : flatD d = true) (g : flatD e = true) (ru : RelV (toV d) u) (rv : RelV (toV e) v) : SeqAt.RcNeAt A s u v (!eqF d e) := by
  cases d with
  | non =>
    obtain rfl : u = .none := ru
    cases e with
    | non => obtain rfl : v = .none := rv; exact SeqAt.RcNeAt.none_none
    | bl b => obtain rfl : v = .bool b := rv; exact SeqAt.RcNeAt.none_bool b
    | int b => obtain ⟨t, rfl⟩ := rv; exact SeqAt.RcNeAt.none_int b t
    | str b => obtain ⟨t, rfl⟩ := rv; exact SeqAt.RcNeAt.none_str b t
    | _ => cases g
  | bl a =>
    obtain rfl : u = .bool a := ru
    cases e with
    | non => obtain rfl : v = .none := rv; exact SeqAt.RcNeAt.bool_none a
    | bl b => obtain rfl : v = .bool b := rv; exact SeqAt.RcNeAt.bool_bool a b
    | int b => obtain ⟨t, rfl⟩ := rv; exact SeqAt.RcNeAt.bool_int a b t
    | str b => obtain ⟨t, rfl⟩ := rv; exact SeqAt.RcNeAt.bool_str a b t
    | _ => cases g
  | int a =>
    obtain ⟨t0, rfl⟩ := ru
    cases e with
    | non => obtain rfl : v = .none := rv; exact SeqAt.RcNeAt.int_none a t0
    | bl b => obtain rfl : v = .bool b := rv; exact SeqAt.RcNeAt.int_bool a t0 b
    | int b => obtain ⟨t, rfl⟩ := rv; exact SeqAt.RcNeAt.int_int a t0 b t
    | str b => obtain ⟨t, rfl⟩ := rv; exact SeqAt.RcNeAt.int_str a t0 b t
    | _ => cases g
  | str a =>
    obtain ⟨t0, rfl⟩ := ru
    cases e with
    | non => obtain rfl : v = .none := rv; exact SeqAt.RcNeAt.str_none a t0
    | bl b => obtain rfl : v = .bool b := rv; exact SeqAt.RcNeAt.str_bool a t0 b
    | int b => obtain ⟨t, rfl⟩ := rv; exact SeqAt.RcNeAt.str_int a t0 b t
    | str b => obtain ⟨t, rfl⟩ := rv; exact SeqAt.RcNeAt.str_str a t0 b t
    | _ => cases g
  | _ => cases f
theorem rnAt_FL {A : Around} {s : Shared} {d : D} {u : Value} {q : Addr} {items : Array Value} (hu : A.units < cLine) (f : flatD d = true) (ru : RelV (toV d) u) (h : s.heap.IsList q items) : SeqAt.RcNeAt A s u (.ref q) true ∧ SeqAt.RcNeAt A s (.ref q) u true := by
  cases d with
  | non => obtain rfl : u = .none := ru; exact ⟨SeqAt.RcNeAt.none_list h hu, SeqAt.RcNeAt.list_none h hu⟩
  | bl b => obtain rfl : u = .bool b := ru; exact ⟨SeqAt.RcNeAt.bool_list b h hu, SeqAt.RcNeAt.list_bool b h hu⟩
  | int i => obtain ⟨t, rfl⟩ := ru; exact ⟨SeqAt.RcNeAt.int_list i t h hu, SeqAt.RcNeAt.list_int i t h hu⟩
  | str z => obtain ⟨t, rfl⟩ := ru; exact ⟨SeqAt.RcNeAt.str_list z t h hu, SeqAt.RcNeAt.list_str z t h hu⟩
  | _ => cases f
theorem rnAt_FT {A : Around} {s : Shared} {d : D} {u : Value} {q : Addr} {items : Array Value} (hu : A.units < cLine) (f : flatD d = true) (ru : RelV (toV d) u) (h : s.heap.IsTuple q items) : SeqAt.RcNeAt A s u (.ref q) true ∧ SeqAt.RcNeAt A s (.ref q) u true := by
  cases d with
  | non => obtain rfl : u = .none := ru; exact ⟨SeqAt.RcNeAt.none_tuple h hu, SeqAt.RcNeAt.tuple_none h hu⟩
  | bl b => obtain rfl : u = .bool b := ru; exact ⟨SeqAt.RcNeAt.bool_tuple b h hu, SeqAt.RcNeAt.tuple_bool b h hu⟩
  | int i => obtain ⟨t, rfl⟩ := ru; exact ⟨SeqAt.RcNeAt.int_tuple i t h hu, SeqAt.RcNeAt.tuple_int i t h hu⟩
  | str z => obtain ⟨t, rfl⟩ := ru; exact ⟨SeqAt.RcNeAt.str_tuple z t h hu, SeqAt.RcNeAt.tuple_str z t h hu⟩
  | _ => cases f
theorem rn_data (O : Fu.RatO X.prog X.w X.K X.mg X.base Γ.R) {n : Nat} {d e : D} {b : Bool} (hd : dep d ≤ n) (he : deq d e = some b) (nr : isRat d = false) (nr' : isRat e = false) {A : Around} {pins : List (Addr × Obj)} {σ : St} {H : Hp} {s : Shared} {x y : V} {u v : Value} (sb : Sub X (n + 3) A) (I : Inv X pins σ H s) (hx : At Γ H d x) (rx : RelV x u) (hy : At Γ H e y) (ry : RelV y v) : RnOk X A pins σ H s u v (!b) := by
  have ih : ∀ k, RcD X Γ k := rcD_all O
  have sb3 : Sub X 3 A := sb.mono (by omega)
  have hu := sb.room.units0
  have isL : ∀ {q : Addr} {xs : List V}, H q = some (.lst xs) → ∃ its, s.heap.IsList q its := fun h => by
    obtain ⟨its, r, pl, hz⟩ := I.list (SqL.of h)
    exact ⟨_, pl.isList⟩
  have isT : ∀ {q : Addr} {xs : List V}, H q = some (.tup xs) → ∃ its, s.heap.IsTuple q its := fun h => by
    obtain ⟨its, r, pl, hz⟩ := I.tuple (SqT.of h)
    exact ⟨_, pl⟩
  have flatC : ∀ (d e : D) (b : Bool), flatD d = true → At Γ H d x → At Γ H e y → (if flatD d = true then (if flatD e = true then some (eqF d e) else if (isTp e || isLt e) = true then some false else none) else none) = some b → RnOk X A pins σ H s u v (!b) := by
    intro d e b f hx hy h
    rw [if_pos f] at h
    have ex := flat_atM hx f
    subst ex
    split at h
    · rename_i g
      cases h
      have ey := flat_atM hy g
      subst ey
      exact rnOk_at I (rnAt_V f g rx ry)
    · split at h
      · rename_i z
        cases h
        cases e with
        | lst m =>
          obtain ⟨q, ys, rfl, hq, _⟩ := hy
          obtain rfl : v = .ref q := ry
          obtain ⟨its, hi⟩ := isL hq
          exact rnOk_at I (rnAt_FL hu f rx hi).1
        | tup m =>
          obtain ⟨q, ys, rfl, hq, _⟩ := hy
          obtain rfl : v = .ref q := ry
          obtain ⟨its, hi⟩ := isT hq
          exact rnOk_at I (rnAt_FT hu f rx hi).1
        | _ => cases z
      · cases h
  cases d with
  | rat p => cases nr
  | lst l =>
    cases e with
    | lst m =>
      obtain ⟨q, xs, rfl, hq, hs⟩ := hx
      obtain ⟨q', ys, rfl, hq', hs'⟩ := hy
      obtain rfl : u = .ref q := rx
      obtain rfl : v = .ref q' := ry
      have h' : (if l.length = m.length then deqs l m else some false) = some b := he
      obtain ⟨k, rfl⟩ : ∃ k, n = k + 1 := ⟨n - 1, by have : 1 + deps l ≤ n := hd; omega⟩
      have hdl : deps l ≤ k := by have : 1 + deps l ≤ k + 1 := hd; omega
      split at h'
      · rename_i hl
        refine GQ.rcn_listB (N := xs.length) (e := eAt l m) hu (fun s' => LoopI X pins σ H s') (fun i s' w ht => ?_) (fun s' t w => ⟨?_, w⟩) (fun s' j hj hf w => ⟨?_, w⟩) ⟨H, I, Ext.rfl'⟩
        · obtain ⟨H1, I1, e1⟩ := id w
          obtain ⟨z, its, c, r, e⟩ := I1.hok q _ (e1 _ _ hq)
          obtain ⟨z2, its2, c2, r2, e2⟩ := I1.hok q' _ (e1 _ _ hq')
          refine ⟨its.toArray, its2.toArray, c, c2, e, e2, by rw [List.size_toArray, ← r.length], by rw [List.size_toArray, ← r2.length, hs.len, hs'.len, hl], fun h1 h2 => ?_⟩
          exact turnB (ih k) hdl h' sb hs hs' r r2 i h1 h2 s' w ht
        · rw [deqs_true h' fun j h1 h2 => t j (by rw [hs.len]; exact h1), decide_eq_true hl]
          rfl
        · rw [hs.len] at hj
          rw [deqs_false h' hj (by omega) hf]
          rfl
      · rename_i hl
        cases h'
        obtain ⟨its, r, pl, _⟩ := I.list (SqL.of hq)
        obtain ⟨its2, r2, pl2, _⟩ := I.list (SqL.of hq')
        refine rnOk_at I (SeqAt.RcNeAt.lists_lengths pl.isList pl2.isList ?_ hu)
        rw [List.size_toArray, List.size_toArray, ← r.length, ← r2.length, hs.len, hs'.len]
        simpa using hl
    | tup m =>
      cases he
      obtain ⟨q, xs, rfl, hq, hs⟩ := hx
      obtain ⟨q', ys, rfl, hq', hs'⟩ := hy
      obtain rfl : u = .ref q := rx
      obtain rfl : v = .ref q' := ry
      obtain ⟨its, h1⟩ := isL hq
      obtain ⟨its2, h2⟩ := isT hq'
      exact rnOk_at I (SeqAt.RcNeAt.list_tuple h1 h2 hu)
    | rat p => cases nr'
    | dic ks m => cases he
    | obj c m => cases he
    | _ =>
      cases he
      obtain ⟨q, xs, rfl, hq, hs⟩ := hx
      obtain rfl : u = .ref q := rx
      obtain ⟨its, h1⟩ := isL hq
      have ey := flat_atM hy rfl
      subst ey
      exact rnOk_at I (rnAt_FL hu rfl ry h1).2
  | tup l =>
    cases e with
    | tup m =>
      obtain ⟨q, xs, rfl, hq, hs⟩ := hx
      obtain ⟨q', ys, rfl, hq', hs'⟩ := hy
      obtain rfl : u = .ref q := rx
      obtain rfl : v = .ref q' := ry
      have h' : deqs l m = some b := he
      obtain ⟨k, rfl⟩ : ∃ k, n = k + 1 := ⟨n - 1, by have : 1 + deps l ≤ n := hd; omega⟩
      have hdl : deps l ≤ k := by have : 1 + deps l ≤ k + 1 := hd; omega
      obtain ⟨its, r, pl, _⟩ := I.tuple (SqT.of hq)
      obtain ⟨its2, r2, pl2, _⟩ := I.tuple (SqT.of hq')
      have z1 : its.toArray.size = l.length := by rw [List.size_toArray, ← r.length, hs.len]
      have z2 : its2.toArray.size = m.length := by rw [List.size_toArray, ← r2.length, hs'.len]
      refine GQ.rcn_tupB (e := eAt l m) hu (fun s' => LoopI X pins σ H s') pl pl2 (fun i h1 h2 s' w ht => turnB (ih k) hdl h' sb hs hs' r r2 i h1 h2 s' w ht) (fun s' t w => ⟨?_, w⟩) (fun s' j h1 h2 hf w => ⟨?_, w⟩) ⟨H, I, Ext.rfl'⟩
      · rw [deqs_true h' fun j h1 h2 => t j (by omega) (by omega), z1, z2]
        congr 1
      · rw [deqs_false h' (by omega) (by omega) hf]
        rfl
    | lst m =>
      cases he
      obtain ⟨q, xs, rfl, hq, hs⟩ := hx
      obtain ⟨q', ys, rfl, hq', hs'⟩ := hy
      obtain rfl : u = .ref q := rx
      obtain rfl : v = .ref q' := ry
      obtain ⟨its, h1⟩ := isT hq
      obtain ⟨its2, h2⟩ := isL hq'
      exact rnOk_at I (SeqAt.RcNeAt.tuple_list h1 h2 hu)
    | rat p => cases nr'
    | dic ks m => cases he
    | obj c m => cases he
    | _ =>
      cases he
      obtain ⟨q, xs, rfl, hq, hs⟩ := hx
      obtain rfl : u = .ref q := rx
      obtain ⟨its, h1⟩ := isT hq
      have ey := flat_atM hy rfl
      subst ey
      exact rnOk_at I (rnAt_FT hu rfl ry h1).2
  | dic ks l => cases e <;> cases he
  | obj c l => cases e <;> cases he
  | non =>
    cases e with
    | rat p => cases nr'
    | _ => exact flatC .non _ b rfl hx hy he
  | bl z =>
    cases e with
    | rat p => cases nr'
    | _ => exact flatC (.bl z) _ b rfl hx hy he
  | int z =>
    cases e with
    | rat p => cases nr'
    | _ => exact flatC (.int z) _ b rfl hx hy he
  | str z =>
    cases e with
    | rat p => cases nr'
    | _ => exact flatC (.str z) _ b rfl hx hy he
/-- x == y -/
def sEq (k : Nat) (d e : D) : Option Sl := if dep d ≤ k then (deq d e).map fun b => .va (.bl b) else none
theorem post_bl {H H' M : Hp} {b : Bool} (s : Same M H) (e : Ext H H') : Post Γ H M (.va (.bl b)) (.bl b) H' := ⟨M, ⟨e, Same.refl M, fun a o h => e a o (s a o h), fun _ _ h => .inl h⟩, rfl⟩
def rEqM (Γ : Ct) (k : Nat) : R2 := fun x y H Q => ∃ d e b, At Γ H d x ∧ At Γ H e y ∧ dep d ≤ k ∧ deq d e = some b ∧ ∀ H', Ext H H' → Q (.bl b) H'
theorem od_eq (O : Fu.RatO X.prog X.w X.K X.mg X.base Γ.R) {k : Nat} (hr : Room (k + 3) X.A) : OpD X Γ (compareOp .Eq) (sEq k) := by
  refine ⟨rEqM Γ k, ?_, ?_⟩
  · intro pins s σ H x y u v Q I rx ry h
    obtain ⟨d, e, b, hx, hy, hd, he, q⟩ := h
    refine wpAny_mono (rcD_all O k hd he (A := X.A) ⟨hr, rfl⟩ I hx rx hy ry) (fun r s' z => ?_) fun _ _ x => x
    obtain ⟨rfl, H', I', e'⟩ := z
    exact ⟨.bl b, H', I', rfl, q H' e'⟩
  · intro H M x y d e r Q s hx hy he q
    unfold sEq at he
    split at he
    · rename_i hd
      obtain ⟨b, hb, rfl⟩ := Option.map_eq_some_iff.mp he
      exact ⟨d, e, b, hx.at_ s, hy.at_ s, hd, hb, fun H' e' => q _ _ (post_bl s e')⟩
    · cases he
/-- x != y -/
def sNe (k : Nat) (d e : D) : Option Sl := if (isRat d || isRat e) = true then cmR (fun p q => !decide (p = q)) d e else if dep d ≤ k then (deq d e).map fun b => .va (.bl !b) else none
theorem ne_iff (p q : Rat) : (!decide (p = q)) = Fu.R_ne (p.num * q.den) (q.num * p.den) := by
  unfold Fu.R_ne
  congr 1
  refine dec_iff ⟨fun h => by subst h; rfl, fun h => ?_⟩
  obtain ⟨h1, h2⟩ := rat_red (red_rat p) h
  exact Rat.ext h1 (by omega)
def rNeM (Γ : Ct) (k : Nat) : R2 := fun x y H Q => ∃ d e b, At Γ H d x ∧ At Γ H e y ∧ dep d ≤ k ∧ deq d e = some b ∧ isRat d = false ∧ isRat e = false ∧ ∀ H', Ext H H' → Q (.bl !b) H'
theorem od_ne (O : Fu.RatO X.prog X.w X.K X.mg X.base Γ.R) {k : Nat} (hr : Room (k + 4) X.A) : OpD X Γ (compareOp .NotEq) (sNe k) := by
  have h1 : OpR X (compareOp .NotEq) (rNeM Γ k) := by
    intro pins s σ H x y u v Q I rx ry h
    obtain ⟨d, e, b, hx, hy, hd, he, nr, nr', q⟩ := h
    refine wpAny_mono (rn_data O hd he nr nr' (A := X.A) ⟨hr.mono (by omega), rfl⟩ I hx rx hy ry) (fun r s' z => ?_) fun _ _ x => x
    obtain ⟨rfl, H', I', e'⟩ := z
    exact ⟨.bl !b, H', I', rfl, q H' e'⟩
  refine ⟨_, h1.or (Fu.op_numNe O (hr.mono (by omega))), ?_⟩
  intro H M x y d e r Q s hx hy he q
  unfold sNe at he
  split at he
  · exact .inr (cmR_ok ne_iff s hx hy he q)
  · rename_i nr
    rw [Bool.not_eq_true, Bool.or_eq_false_iff] at nr
    split at he
    · rename_i hd
      obtain ⟨b, hb, rfl⟩ := Option.map_eq_some_iff.mp he
      exact .inl ⟨d, e, b, hx.at_ s, hy.at_ s, hd, hb, nr.1, nr.2, fun H' e' => q _ _ (post_bl s e')⟩
    · cases he
end
end Mi

/-! The mirror layer: Ratio(n, m). -/
namespace Mi
open PySem L2
open PyProof.Rows hiding St
def ratMk (ci : Nat) (t b : D) (S : List Sl) : Rs (Sl × List Sl) := match t, b with
  | .int n, .int m => if m = 0 then .er ci (some (.int 0)) else if m.natAbs.log2 < 9000 then .ok (.va (.rat (Rat.divInt n m)), S) else .no
  | .int _, b => if (toFu b).isSome = true then .er ci (some b) else .no
  | t, b => if ((toFu t).isSome && (toFu b).isSome) = true then .er ci (some t) else .no
theorem div_cross {n m : Int} (h : m ≠ 0) : (Rat.divInt n m).num * m = n * (Rat.divInt n m).den := by
  have e : Rat.divInt (Rat.divInt n m).num (Rat.divInt n m).den = Rat.divInt n m := Rat.num_divInt_den _
  exact (Rat.divInt_eq_divInt_iff (by have := (Rat.divInt n m).den_nz; omega) h).mp e
structure RatD (X : Cx) (Γ : Ct) (ci : Nat) : Prop where
  ex : ∃ (f : Addr) (fd : FuncData) (ds : List Value), Fu.RatM X.prog X.w X.K X.mg X.base Γ.R (Γ.err ci) f fd ds
  g : X.mg "Ratio" = some (.ref Γ.R)
  ef : Γ.erf ci = some "value"
section
variable {X : Cx} {Γ : Ct} {F : Fr} {W : WX} {a b : Expr} {pos p : Pos}
theorem isInt_toFu {d : D} {d' : Fu.D} (h : toFu d = some d') (n : ∀ i, d ≠ .int i) : Fu.isInt d' = false := by
  cases d with
  | int i => exact absurd rfl (n i)
  | lst l =>
    obtain ⟨l', _, rfl⟩ := Option.map_eq_some_iff.mp h
    rfl
  | tup l =>
    obtain ⟨l', _, rfl⟩ := Option.map_eq_some_iff.mp h
    rfl
  | dic ks l =>
    dsimp only [toFu] at h
    split at h
    · cases h
      rfl
    · cases h
  | obj c l => cases h
  | _ =>
    cases h
    rfl
theorem ratMk_ok {ci : Nat} {t e : D} {vt vb : V} {M H : Hp} {T : List (Sl × Option V)} {S : List Sl} {σ : St} {Q : VK} (ef : Γ.erf ci = some "value") (R : RepM Γ F M T S σ H) (ht : At Γ M t vt) (hb : At Γ M e vb)
    (k : Ok3 Γ F W σ (ratMk ci t e S) fun a => ∀ v H', Rep Γ F ((a.1, some v) :: T) a.2 σ H' → Q v H') (x dx : Addr) (nx : H x = none) (nd : H dx = none) (ne : dx ≠ x) :
    Fu.spInit Γ.R (Γ.err ci) [.ref x, vt, vb] (upd (upd H dx (.own x)) x (.ins Γ.R dx [])) (fun v H2 => v = .non ∧ Q (.ref x) H2) (fun c d H' => W c d σ H') := by
  have g1 : Grow H M (upd H dx (.own x)) M := Grow.own R.sub nd
  have nx' : upd H dx (.own x) x = none := by
    rw [upd_ne (Ne.symm ne)]
    exact nx
  have g2 := g1.trans (Grow.own (o := .ins Γ.R dx []) g1.s nx')
  have R2 := R.grow g2
  have er : ∀ (d : D) (v : V), At Γ M d v → ratMk ci t e S = .er ci (some d) → ∀ q, upd (upd H dx (.own x)) x (.ins Γ.R dx []) q = none → W (.ref (Γ.err ci)) (some q) σ (upd (upd (upd H dx (.own x)) x (.ins Γ.R dx [])) q (.xd [("value", v)])) := by
    intro d v hd he q hq
    rw [he] at k
    exact k (some q) _ (R2.err hd ef hq)
  have up : Same M (upd (upd H dx (.own x)) x (.ins Γ.R dx [])) := g2.s
  have main : ∀ t' e', toFu t = some t' → toFu e = some e' → (Fu.isInt t' = false → ratMk ci t e S = .er ci (some t)) → (Fu.isInt t' = true → (Fu.isInt e' = false ∨ e' = .int 0) → ratMk ci t e S = .er ci (some e)) →
      (∀ n m, t' = .int n → e' = .int m → m ≠ 0 → m.natAbs.log2 < 9000 ∧ ratMk ci t e S = .ok (.va (.rat (Rat.divInt n m)), S)) →
      Fu.spInit Γ.R (Γ.err ci) [.ref x, vt, vb] (upd (upd H dx (.own x)) x (.ins Γ.R dx [])) (fun v H2 => v = .non ∧ Q (.ref x) H2) (fun c d H' => W c d σ H') := by
    intro t' e' h1 h2 k1 k2 k3
    refine ⟨x, dx, vt, vb, t', e', rfl, upd_same, toFu_at h1 (ht.ex up), toFu_at h2 (hb.ex up), fun z q hq => er t vt ht (k1 z) q hq, fun z w q hq => er e vb hb (k2 z w) q hq, fun n m e1 e2 hm => ?_⟩
    obtain ⟨hl, he⟩ := k3 n m e1 e2 hm
    refine ⟨hl, rfl, ?_⟩
    rw [he] at k
    exact (new_rat (q := Rat.divInt n m) R.sub hm (div_cross hm) fun v H' post => k v H' (R.post post)).new hm x dx _ (Fu.made_same nx nd ne) nx upd_same
  cases h1 : toFu t with
  | none =>
    exfalso
    unfold ratMk at k
    split at k
    · cases h1
    · cases h1
    · rw [h1] at k
      exact k
  | some t' =>
    cases h2 : toFu e with
    | none =>
      exfalso
      unfold ratMk at k
      split at k
      · cases h2
      · rw [h2] at k
        exact k
      · rw [h1, h2] at k
        exact k
    | some e' =>
      refine main t' e' h1 h2 (fun z => ?_) (fun z w => ?_) fun n m e1 e2 hm => ?_
      · cases t with
        | int n =>
          cases h1
          cases z
        | _ => simp [ratMk, h1, h2]
      · cases t with
        | int n =>
          cases e with
          | int m =>
            cases h2
            rcases w with w | w
            · cases w
            · cases w
              simp [ratMk]
          | _ => simp [ratMk, h2]
        | _ =>
          rw [isInt_toFu h1 fun i q => by cases q] at z
          cases z
      · subst e1 e2
        have et : t = .int n := by
          cases t with
          | int i => cases h1; rfl
          | _ =>
            have := isInt_toFu h1 fun i q => by cases q
            cases this
        have ee : e = .int m := by
          cases e with
          | int i => cases h2; rfl
          | _ =>
            have := isInt_toFu h2 fun i q => by cases q
            cases this
        subst et ee
        have e0 : ratMk ci (.int n) (.int m) S = if m.natAbs.log2 < 9000 then .ok (.va (.rat (Rat.divInt n m)), S) else .no := by simp [ratMk, hm]
        rw [e0] at k ⊢
        split at k
        · rename_i hl
          exact ⟨hl, by rw [if_pos hl]⟩
        · exact k.elim
def fRat2 (ci : Nat) (g : Af) : Ef := fun S => (g S).bind fun a => match a.1 with
  | [t, b] => ratMk ci t b a.2
  | _ => .no
def fRat1 (ci : Nat) (g : Af) : Ef := fun S => (g S).bind fun a => match a.1 with
  | [t] => ratMk ci t (.int 1) a.2
  | _ => .no
theorem de_ratio2 {ci : Nat} {g : Af} (D1 : RatD X Γ ci) (hr : Room 4 X.A) (tk : Takes X W) (ha : DA X Γ F W [a, b] g) (hg : Gl X "Ratio" := by rfl)
    (he : starEach [a, b] X.env = (false, eval a X.env) :: starEach [b] X.env := by rfl) (hpl : (backTo pos (starEach [b] X.env)).any (·.1) = false := by rfl) : DE X Γ F W (.Call (.Name "Ratio" p) [a, b] [] pos) (fRat2 ci g) := by
  obtain ⟨f, fd, ds, M⟩ := D1.ex
  refine PE.mono (Fu.pe_makeS (E := WE W) M.m M.ok hr hg D1.g M.b2 .nil (fun σ => passAt tk σ) ha (by decide) he hpl) fun σ H Q ⟨T, S, rep, k⟩ => ⟨T, S, rep, k.bind.mono fun z q vs H1 M1 R hs x dx nx nd ne => ?_⟩
  obtain ⟨l, S'⟩ := z
  match l, hs, q with
  | [t, e], hs, q =>
    obtain ⟨v1, r, rfl, h1, v2, r2, rfl, h2', h3⟩ := hs
    obtain rfl := h3
    exact ratMk_ok D1.ef R h1 h2' q x dx nx nd ne
  | [], _, q => exact q.elim
  | [_], _, q => exact q.elim
  | _ :: _ :: _ :: _, _, q => exact q.elim
theorem de_ratio1 {ci : Nat} {g : Af} (D1 : RatD X Γ ci) (hr : Room 4 X.A) (tk : Takes X W) (ha : DA X Γ F W [a] g) (hg : Gl X "Ratio" := by rfl)
    (he : starEach [a] X.env = (false, eval a X.env) :: starEach [] X.env := by rfl) (hpl : (backTo pos (starEach [] X.env)).any (·.1) = false := by rfl) : DE X Γ F W (.Call (.Name "Ratio" p) [a] [] pos) (fRat1 ci g) := by
  obtain ⟨f, fd, ds, M⟩ := D1.ex
  refine PE.mono (Fu.pe_makeS (E := WE W) M.m M.ok hr hg D1.g M.b1 M.d1 (fun σ => passAt tk σ) ha (by decide) he hpl) fun σ H Q ⟨T, S, rep, k⟩ => ⟨T, S, rep, k.bind.mono fun z q vs H1 M1 R hs x dx nx nd ne => ?_⟩
  obtain ⟨l, S'⟩ := z
  match l, hs, q with
  | [t], hs, q =>
    obtain ⟨v1, r, rfl, h1, h3⟩ := hs
    obtain rfl := h3
    exact ratMk_ok (e := .int 1) (vb := .int 1) D1.ef R h1 (show V.int 1 = V.int 1 from rfl) q x dx nx nd ne
  | [], _, q => exact q.elim
  | _ :: _ :: _, _, q => exact q.elim
end
end Mi

/-! The mirror layer: parts of a Ratio; fields own_top, own_bottom; enumerate. -/
namespace Mi
open PySem L2
open PyProof.Rows hiding St
def sTop : D → Option Sl
  | .rat q => some (.va (.int q.num))
  | _ => none
def sBot : D → Option Sl
  | .rat q => some (.va (.int q.den))
  | _ => none
section
variable {X : Cx} {Γ : Ct} {F : Fr} {W : WX} {o tg e : Expr} {fo fa : Ef} {pos p : Pos}
/-- a property of Ratio that hands out a field -/
structure RpD (X : Cx) (Γ : Ct) (m f : Str) : Prop where
  ex : ∃ (pb fb : Addr) (fd : FuncData), PropOf X.K Γ.R m pb fb ∧ FnOk X.prog X.w X.K X.mg X.base CX0 1 fb fd ["self"] (getSp Γ.R f) ∧ Binds X.K fd ["self"] []
theorem rat_part {H M : Hp} {x : V} {d : D} {r : Sl} {Q : VK} {f : Str} {sem : D → Option Sl} (s : Same M H) (h : AtT Γ H M d x) (e : sem d = some r) (k : ∀ v H', Post Γ H M r v H' → Q v H')
    (hs : ∀ d r, sem d = some r → ∃ q i, d = .rat q ∧ r = .va (.int i) ∧ (Fu.rf q.num q.den).lookup f = some (.int i)) : ∃ a dx fs, x = .ref a ∧ H a = some (.ins Γ.R dx fs) ∧ fs.lookup f = some (match r with | .va (.int i) => .int i | _ => .non) ∧ Q (match r with | .va (.int i) => .int i | _ => .non) H := by
  obtain ⟨q, i, rfl, rfl, l⟩ := hs d r e
  obtain ⟨a, dx, rfl, ha⟩ := h
  exact ⟨a, dx, _, rfl, ha, l, k _ _ (Post.int s)⟩
theorem top_is : ∀ d r, sTop d = some r → ∃ q i, d = .rat q ∧ r = .va (.int i) ∧ (Fu.rf q.num q.den).lookup ("own_top" : Str) = some (.int i) := by
  intro d r h
  cases d with
  | rat q =>
    cases h
    exact ⟨q, _, rfl, rfl, Fu.rf_top _ _⟩
  | _ => cases h
theorem bot_is : ∀ d r, sBot d = some r → ∃ q i, d = .rat q ∧ r = .va (.int i) ∧ (Fu.rf q.num q.den).lookup ("own_bottom" : Str) = some (.int i) := by
  intro d r h
  cases d with
  | rat q =>
    cases h
    exact ⟨q, _, rfl, rfl, Fu.rf_bot _ _⟩
  | _ => cases h
theorem de_rprop {m f : Str} {sem : D → Option Sl} (c : Cls X.K Γ.R) (D1 : RpD X Γ m f) (hs : ∀ d r, sem d = some r → ∃ q i, d = .rat q ∧ r = .va (.int i) ∧ (Fu.rf q.num q.den).lookup f = some (.int i)) (hr : Room 2 X.A) (ho : DE X Γ F W o fo)
    (hab : attributeBase o m X.env (eval o X.env) = eval o X.env := by rfl) : DE X Γ F W (.Attribute o m pos) (fU sem fo) := by
  obtain ⟨pb, fb, fd, P1, F1, b1⟩ := D1.ex
  refine PE.mono (pe_prop (E := E0) (dvs := []) ho c P1 F1 hr b1 .nil pass0 hab) (fU_ok (R := fun x H Q => ∃ a dx fs, x = .ref a ∧ H a = some (.ins Γ.R dx fs) ∧ getSp Γ.R f [.ref a] H Q E0) fun H M x d r Q s h e k => ?_)
  obtain ⟨a, dx, fs, rfl, ha, l, q⟩ := rat_part s h e k hs
  exact ⟨a, dx, fs, rfl, ha, a, dx, fs, _, rfl, ha, l, q⟩
/-- enumerate(xs) -/
def numsFrom (k : Nat) : List D → List D
  | [] => []
  | d :: l => .tup [.int (k : Nat), d] :: numsFrom (k + 1) l
theorem nums_len : ∀ {k : Nat} {l : List D}, (numsFrom k l).length = l.length
  | _, [] => rfl
  | k, d :: l => by
    show (numsFrom (k + 1) l).length + 1 = l.length + 1
    rw [nums_len]
theorem nums_get : ∀ {k i : Nat} {l : List D} {d : D}, l[i]? = some d → (numsFrom k l)[i]? = some (.tup [.int ((k + i : Nat) : Int), d])
  | k, 0, d :: l, _, h => by
    cases h
    rfl
  | k, i + 1, d :: l, d', h => by
    have := nums_get (k := k + 1) (i := i) (l := l) (d := d') (by simpa using h)
    rw [show k + (i + 1) = k + 1 + i by omega]
    simpa [numsFrom] using this
theorem walkD_enum {xs : List V} {ds : List D} {q : Addr} (hl : xs.length = ds.length) : WalkD Γ [(.hd (.lst xs), some (.ref q)), (.va (.lst ds), some (.ref q))] (numsFrom 0 ds) (Ite X.K q) := by
  refine ⟨_, _, (by have := walk_enum (K := X.K) (a := q) (xs := xs); rw [hl, ← nums_len (k := 0) (l := ds)] at this; exact this), fun M1 H1 h s => SqL.of (s _ _ (held2 h).1), fun i H1 M1 x H2 hi h s y => ?_⟩
  rw [nums_len] at hi
  obtain ⟨T, x1, x2, rfl, nT, rfl, e1, e2⟩ := y
  obtain ⟨h1, a, xs', ea, h2, hs⟩ := held2 h
  cases ea
  rw [h1] at h2
  cases h2
  cases e1
  obtain ⟨d, hd⟩ : ∃ d, ds[i]? = some d := ⟨_, List.getElem?_eq_getElem hi⟩
  obtain ⟨x', hx', hat⟩ := hs.get hd
  have e2 : xs[i]? = some x2 := e2
  rw [e2] at hx'
  cases hx'
  have g := Grow.new (o := .tup [.int (i : Nat), x2]) s nT
  refine ⟨_, .tup [.int ((0 + i : Nat) : Int), d], g, nums_get hd, T, _, rfl, upd_same, ?_⟩
  rw [Nat.zero_add]
  exact ⟨_, _, rfl, rfl, _, _, rfl, hat.ex g.m, rfl⟩
def iEnu (g : Af) : If := fun S => (g S).bind fun a => match a.1 with
  | [.lst l] => .ok (numsFrom 0 l, a.2)
  | _ => .no
theorem di_enum {g : Af} {elts : List Expr} {kk : Nat} {tpos : Pos} (hg : Gl X "enumerate") (hm : X.mg "enumerate" = none) (ha : DA X Γ F W [e] g) (hs : starEach [e] X.env = [(false, eval e X.env)] := by rfl) : DI X Γ F W (.Tuple elts kk tpos) (.Call (.Name "enumerate" p) [e] [] pos) (iEnu g) :=
  PI.mono (pi_enum hg hm ha hs) fun σ H R ⟨T, S, rep, k⟩ => ⟨T, S, rep, k.bind.mono fun z q vs H' M r hs => by
    split at q
    · rename_i l e1
      rw [e1] at hs
      obtain ⟨v, vr, rfl, hv, hs⟩ := hs
      obtain rfl := hs
      obtain ⟨pp, xs, rfl, hp, hA⟩ := id hv
      exact ⟨pp, xs, rfl, SqL.of (r.sub _ _ hp), q _ H' M [(.hd (.lst xs), some (.ref pp)), (.va (.lst l), some (.ref pp))] two_held ((r.push hv).hold hp) (walkD_enum hA.len)⟩
    · exact q.elim⟩
end
end Mi

/-! The heap evaluator: data with places, cells, how they lie in the abstract heap. -/
noncomputable section
namespace He
open PySem L2
open PyProof.Rows hiding St

/-- a datum: what never changes as a tree, what may change by its place -/
inductive D where
  | non | bl (b : Bool) | int (i : Int) | str (x : Str) | tup (l : List D) | rat (q : Rat) | loc (n : Nat) | gl (g : Nat) | exc | scr | kk
/-- a cell; k: a loop walks it -/
inductive C where
  | lst (l : List D) | dic (k : Bool) (ks : List Key) (l : List D) | dct (k : Bool) (ks : List (List Key)) (l : List D) | ins (c : Nat) (l : List D) | pl
inductive Tr where
  | lf | nd (l : Tr) (v : Option C) (r : Tr)
def Tr.get : Tr → Nat → Option C
  | .lf, _ => none
  | .nd l v r, n => match n with
    | 0 => v
    | n + 1 => match n % 2 with
      | 0 => l.get (n / 2)
      | _ => r.get (n / 2)
def Tr.put : Nat → Tr → Nat → C → Tr
  | 0, t, _, _ => t
  | f + 1, .lf, n, c => match n with
    | 0 => .nd .lf (some c) .lf
    | n + 1 => match n % 2 with
      | 0 => .nd (Tr.put f .lf (n / 2) c) none .lf
      | _ => .nd .lf none (Tr.put f .lf (n / 2) c)
  | f + 1, .nd l v r, n, c => match n with
    | 0 => .nd l (some c) r
    | n + 1 => match n % 2 with
      | 0 => .nd (Tr.put f l (n / 2) c) v r
      | _ => .nd l v (Tr.put f r (n / 2) c)
theorem lf_get (n : Nat) : Tr.lf.get n = none := by unfold Tr.get; rfl
theorem Tr.get_put : ∀ (f : Nat) (t : Tr) (n : Nat) (c : C), n + 1 < 2 ^ f → (Tr.put f t n c).get n = some c
  | 0, t, n, c, h => by omega
  | f + 1, .lf, n, c, h => by
    unfold Tr.put
    cases n with
    | zero => rfl
    | succ n =>
      have hf : n / 2 + 1 < 2 ^ f := by have : 2 ^ (f + 1) = 2 * 2 ^ f := by rw [Nat.pow_succ]; omega
                                        omega
      dsimp only
      cases e : n % 2 with
      | zero => simp only [Tr.get, e]; exact Tr.get_put f .lf (n / 2) c hf
      | succ k => simp only [Tr.get, e]; exact Tr.get_put f .lf (n / 2) c hf
  | f + 1, .nd l v r, n, c, h => by
    unfold Tr.put
    cases n with
    | zero => rfl
    | succ n =>
      have hf : n / 2 + 1 < 2 ^ f := by have : 2 ^ (f + 1) = 2 * 2 ^ f := by rw [Nat.pow_succ]; omega
                                        omega
      dsimp only
      cases e : n % 2 with
      | zero => simp only [Tr.get, e]; exact Tr.get_put f l (n / 2) c hf
      | succ k => simp only [Tr.get, e]; exact Tr.get_put f r (n / 2) c hf
theorem Tr.get_ne : ∀ (f : Nat) (t : Tr) (n m : Nat) (c : C), m ≠ n → (Tr.put f t n c).get m = t.get m
  | 0, t, n, m, c, h => by unfold Tr.put; rfl
  | f + 1, .lf, n, m, c, h => by
    unfold Tr.put
    cases n with
    | zero =>
      cases m with
      | zero => exact absurd rfl h
      | succ m =>
        dsimp only
        rw [lf_get]
        cases e : m % 2 with
        | zero => simp only [Tr.get, e]
        | succ k => simp only [Tr.get, e]
    | succ n =>
      dsimp only
      rw [lf_get]
      cases e : n % 2 with
      | zero =>
        cases m with
        | zero => rfl
        | succ m =>
          cases e' : m % 2 with
          | zero =>
            simp only [Tr.get, e']
            rw [Tr.get_ne f .lf (n / 2) (m / 2) c (by omega), lf_get]
          | succ k => simp only [Tr.get, e']
      | succ k =>
        cases m with
        | zero => rfl
        | succ m =>
          cases e' : m % 2 with
          | zero => simp only [Tr.get, e']
          | succ k' =>
            simp only [Tr.get, e']
            rw [Tr.get_ne f .lf (n / 2) (m / 2) c (by omega), lf_get]
  | f + 1, .nd l v r, n, m, c, h => by
    unfold Tr.put
    cases n with
    | zero =>
      cases m with
      | zero => exact absurd rfl h
      | succ m =>
        dsimp only
        cases e : m % 2 with
        | zero => simp only [Tr.get, e]
        | succ k => simp only [Tr.get, e]
    | succ n =>
      dsimp only
      cases e : n % 2 with
      | zero =>
        cases m with
        | zero => rfl
        | succ m =>
          cases e' : m % 2 with
          | zero =>
            simp only [Tr.get, e']
            exact Tr.get_ne f l (n / 2) (m / 2) c (by omega)
          | succ k => simp only [Tr.get, e']
      | succ k =>
        cases m with
        | zero => rfl
        | succ m =>
          cases e' : m % 2 with
          | zero => simp only [Tr.get, e']
          | succ k' =>
            simp only [Tr.get, e']
            exact Tr.get_ne f r (n / 2) (m / 2) c (by omega)

/-- the cells, how many there are, the draws to come -/
structure Hs where
  nx : Nat
  t : Tr
  dr : List Int
def Hs.get (h : Hs) (n : Nat) : Option C := h.t.get n
def Hs.put (h : Hs) (n : Nat) (c : C) : Hs := ⟨h.nx, h.t.put 40 n c, h.dr⟩
def Hs.push (h : Hs) (c : C) : Hs := ⟨h.nx + 1, h.t.put 40 h.nx c, h.dr⟩

/-- an answer; all n k: any of the answers k 0 .. k (n - 1) (a draw) -/
inductive Rs (α : Type) where
  | ok (a : α) (h : Hs) | er (c : Nat) (d : Option D) (h : Hs) | no | all (n : Nat) (k : Nat → Rs α)
def Rs.bind {α β : Type} (r : Rs α) (f : α → Hs → Rs β) : Rs β := Rs.rec (motive := fun _ => Rs β) (fun a h => f a h) (fun c d h => .er c d h) .no (fun n _ ih => .all n ih) r
def lift {α : Type} (h : Hs) : Option α → Rs α
  | some a => .ok a h
  | none => .no

structure Wd where
  N : Nat
  ι : Nat → Addr
  M : Hp
structure Ext (ω ω' : Wd) : Prop where
  n : ω.N ≤ ω'.N
  i : ∀ k, k < ω.N → ω'.ι k = ω.ι k
  m : Same ω.M ω'.M
theorem Ext.refl (ω : Wd) : Ext ω ω := ⟨Nat.le_refl _, fun _ _ => rfl, Same.refl _⟩
theorem Ext.trans {ω ω1 ω2 : Wd} (e : Ext ω ω1) (e' : Ext ω1 ω2) : Ext ω ω2 := ⟨Nat.le_trans e.n e'.n, fun k h => (e'.i k (Nat.lt_of_lt_of_le h e.n)).trans (e.i k h), e.m.trans e'.m⟩
/-- the classes, the defs; what is known besides (of the exception that is handled) -/
structure Gm where
  ct : Mi.Ct
  fn : Nat → Addr
  xa : Option Addr
  xc : Wd → Prop
  xm : ∀ ω ω', Ext ω ω' → xc ω → xc ω'

mutual
def At (Γ : Gm) (ω : Wd) : D → V → Prop
  | .non, v => v = .non
  | .bl b, v => v = .bl b
  | .int i, v => v = .int i
  | .str x, v => v = .str x
  | .tup l, v => ∃ a xs, v = .ref a ∧ ω.M a = some (.tup xs) ∧ Ats Γ ω l xs
  | .rat q, v => ∃ a dx, v = .ref a ∧ ω.M a = some (.ins Γ.ct.R dx (Fu.rf q.num q.den))
  | .loc n, v => n < ω.N ∧ v = .ref (ω.ι n)
  | .gl g, v => v = .ref (Γ.fn g)
  | .exc, _ => False
  | .scr, v => ∃ (a : Addr) (ns : List Int), v = .ref a ∧ ns.length ≤ 63 ∧ SqL Γ.ct.K ω.M a (ns.map V.int)
  | .kk, v => ∃ k : Nat, k ≤ 63 ∧ v = .int k
def Ats (Γ : Gm) (ω : Wd) : List D → List V → Prop
  | [], xs => xs = []
  | d :: l, xs => ∃ x r, xs = x :: r ∧ At Γ ω d x ∧ Ats Γ ω l r
end
mutual
theorem At.ex {Γ : Gm} {ω ω' : Wd} (e : Ext ω ω') : ∀ {d : D} {v : V}, At Γ ω d v → At Γ ω' d v
  | .non, _, h => h
  | .bl _, _, h => h
  | .int _, _, h => h
  | .str _, _, h => h
  | .tup l, _, h => by
    obtain ⟨a, xs, hv, ha, hs⟩ := h
    exact ⟨a, xs, hv, e.m _ _ ha, Ats.ex e hs⟩
  | .rat q, _, h => by
    obtain ⟨a, dx, hv, ha⟩ := h
    exact ⟨a, dx, hv, e.m _ _ ha⟩
  | .loc n, _, h => by
    obtain ⟨hn, hv⟩ := h
    exact ⟨Nat.lt_of_lt_of_le hn e.n, by rw [hv, e.i n hn]⟩
  | .gl _, _, h => h
  | .exc, _, h => h
  | .scr, _, h => by
    obtain ⟨a, ns, hv, hl, hs⟩ := h
    exact ⟨a, ns, hv, hl, e.m.seq hs⟩
  | .kk, _, h => h
theorem Ats.ex {Γ : Gm} {ω ω' : Wd} (e : Ext ω ω') : ∀ {l : List D} {xs : List V}, Ats Γ ω l xs → Ats Γ ω' l xs
  | [], _, h => h
  | d :: l, _, h => by
    obtain ⟨x, r, hx, h1, h2⟩ := h
    exact ⟨x, r, hx, At.ex e h1, Ats.ex e h2⟩
end
section
variable {Γ : Gm} {ω ω' : Wd} {H H' : Hp}
theorem Ats.len : ∀ {l : List D} {xs : List V}, Ats Γ ω l xs → xs.length = l.length
  | [], _, h => by
    obtain rfl := h
    rfl
  | d :: l, _, h => by
    obtain ⟨x, r, rfl, _, h2⟩ := h
    rw [List.length_cons, List.length_cons, h2.len]
theorem Ats.get : ∀ {l : List D} {xs : List V} {i : Nat} {d : D}, Ats Γ ω l xs → l[i]? = some d → ∃ x, xs[i]? = some x ∧ At Γ ω d x
  | [], _, _, _, _, e => by simp at e
  | d :: l, _, 0, _, h, e => by
    obtain ⟨x, r, rfl, h1, _⟩ := h
    cases e
    exact ⟨x, rfl, h1⟩
  | d :: l, _, i + 1, _, h, e => by
    obtain ⟨x, r, rfl, _, h2⟩ := h
    exact h2.get (i := i) (by simpa using e)
/-- .. from the values' side -/
theorem Ats.at_ {l : List D} {xs : List V} {i : Nat} {x : V} (h : Ats Γ ω l xs) (e : xs[i]? = some x) : ∃ d, l[i]? = some d ∧ At Γ ω d x := by
  have hi : i < l.length := by rw [← h.len]; exact (List.getElem?_eq_some_iff.mp e).1
  obtain ⟨y, hy, ha⟩ := h.get (List.getElem?_eq_getElem hi)
  rw [e] at hy
  cases hy
  exact ⟨_, List.getElem?_eq_getElem hi, ha⟩
theorem Ats.append : ∀ {l m : List D} {xs ys : List V}, Ats Γ ω l xs → Ats Γ ω m ys → Ats Γ ω (l ++ m) (xs ++ ys)
  | [], _, _, _, h, g => by
    obtain rfl := h
    exact g
  | d :: l, _, _, _, h, g => by
    obtain ⟨x, r, rfl, h1, h2⟩ := h
    exact ⟨x, r ++ _, rfl, h1, h2.append g⟩
theorem Ats.one {d : D} {x : V} (h : At Γ ω d x) : Ats Γ ω [d] [x] := ⟨x, [], rfl, h, rfl⟩
theorem Ats.set : ∀ {l : List D} {xs : List V} {i : Nat} {d : D} {x : V}, Ats Γ ω l xs → At Γ ω d x → Ats Γ ω (l.set i d) (xs.set i x)
  | [], _, _, _, _, h, _ => by
    obtain rfl := h
    rfl
  | d :: l, _, 0, _, _, h, g => by
    obtain ⟨x, r, rfl, _, h2⟩ := h
    exact ⟨_, r, rfl, g, h2⟩
  | d :: l, _, i + 1, _, _, h, g => by
    obtain ⟨x, r, rfl, h1, h2⟩ := h
    exact ⟨x, _, rfl, h1, h2.set (i := i) g⟩
theorem Ats.take : ∀ {l : List D} {xs : List V} (n : Nat), Ats Γ ω l xs → Ats Γ ω (l.take n) (xs.take n)
  | _, _, 0, _ => by simp [Ats]
  | [], _, n + 1, h => by
    obtain rfl := h
    simp [Ats]
  | d :: l, _, n + 1, h => by
    obtain ⟨x, r, rfl, h1, h2⟩ := h
    exact ⟨x, r.take n, rfl, h1, h2.take n⟩
theorem Ats.drop : ∀ {l : List D} {xs : List V} (n : Nat), Ats Γ ω l xs → Ats Γ ω (l.drop n) (xs.drop n)
  | _, _, 0, h => h
  | [], _, n + 1, h => by
    obtain rfl := h
    simp [Ats]
  | d :: l, _, n + 1, h => by
    obtain ⟨x, r, rfl, h1, h2⟩ := h
    exact h2.drop n

/-- a locked thing (known to the part that does not change) or the thing itself -/
def Lk (k : Bool) (M H : Hp) (a : Addr) (u : HO) : Prop := match k with
  | false => H a = some u
  | true => ∃ b, M a = some (.frz b u)
def C.lkd : C → Bool
  | .dic k _ _ => k
  | .dct k _ _ => k
  | _ => false
def CAt (Γ : Gm) (ω : Wd) (H : Hp) : C → Addr → Prop
  | .lst l, a => ∃ xs, H a = some (.lst xs) ∧ Ats Γ ω l xs
  | .dic k ks l, a => ∃ kvs, Lk k ω.M H a (.dK kvs) ∧ kvs.map (·.1) = ks ∧ Ats Γ ω l (kvs.map (·.2))
  | .dct k ks l, a => ∃ kvs, Lk k ω.M H a (.dT kvs) ∧ kvs.map (·.1) = ks ∧ Ats Γ ω l (kvs.map (·.2))
  | .ins c l, a => ∃ dx fs, H a = some (.ins (Γ.ct.cls c) dx fs) ∧ fs.map (·.1) = (Γ.ct.fld c).take l.length ∧ Ats Γ ω l (fs.map (·.2))
  | .pl, a => ∃ s t : Int, H a = some (.lst [.int s, .int t]) ∧ 0 ≤ s ∧ 0 ≤ t
theorem Lk.mv {k : Bool} {M M' : Hp} {u : HO} {a : Addr} (h : Lk k M H a u) (m : Same M M') (e : ∀ o, H a = some o → H' a = some o) : Lk k M' H' a u := by
  cases k with
  | false => exact e _ h
  | true => obtain ⟨b, hb⟩ := h; exact ⟨b, m _ _ hb⟩
theorem CAt.mv {c : C} {a : Addr} (h : CAt Γ ω H c a) (x : Ext ω ω') (e : ∀ o, H a = some o → H' a = some o) : CAt Γ ω' H' c a := by
  cases c with
  | lst l => obtain ⟨xs, ha, hs⟩ := h; exact ⟨xs, e _ ha, hs.ex x⟩
  | dic k ks l => obtain ⟨kvs, ha, hk, hs⟩ := h; exact ⟨kvs, ha.mv x.m e, hk, hs.ex x⟩
  | dct k ks l => obtain ⟨kvs, ha, hk, hs⟩ := h; exact ⟨kvs, ha.mv x.m e, hk, hs.ex x⟩
  | ins c l => obtain ⟨dx, fs, ha, hk, hs⟩ := h; exact ⟨dx, fs, e _ ha, hk, hs.ex x⟩
  | pl => obtain ⟨s, t, ha, hk⟩ := h; exact ⟨s, t, e _ ha, hk⟩
theorem CAt.there {c : C} {a : Addr} (h : CAt Γ ω H c a) (s : Same ω.M H) : ∃ o, H a = some o := by
  cases c with
  | lst l => obtain ⟨xs, ha, hs⟩ := h; exact ⟨_, ha⟩
  | dic k ks l =>
    obtain ⟨kvs, ha, hk, hs⟩ := h
    cases k with
    | false => exact ⟨_, ha⟩
    | true => obtain ⟨b, hb⟩ := ha; exact ⟨_, s _ _ hb⟩
  | dct k ks l =>
    obtain ⟨kvs, ha, hk, hs⟩ := h
    cases k with
    | false => exact ⟨_, ha⟩
    | true => obtain ⟨b, hb⟩ := ha; exact ⟨_, s _ _ hb⟩
  | ins c l => obtain ⟨dx, fs, ha, hk, hs⟩ := h; exact ⟨_, ha⟩
  | pl => obtain ⟨s, t, ha, hk⟩ := h; exact ⟨_, ha⟩

structure Rp (Γ : Gm) (ω : Wd) (h : Hs) (H : Hp) : Prop where
  nx : h.nx = ω.N
  lim : ω.N ≤ 1000000000
  sub : Same ω.M H
  cel : ∀ n, n < ω.N → ∃ c, h.get n = some c ∧ CAt Γ ω H c (ω.ι n)
  apt : ∀ n c, n < ω.N → h.get n = some c → c.lkd = false → ω.M (ω.ι n) = none
  inj : ∀ n m, n < ω.N → m < ω.N → ω.ι n = ω.ι m → n = m
  xt : Γ.xc ω
variable {h h' : Hs}
/-- the heap grows -/
theorem Rp.same (r : Rp Γ ω h H) (s : Same H H') : Rp Γ ω h H' := ⟨r.nx, r.lim, r.sub.trans s, fun n hn => let ⟨c, hc, ha⟩ := r.cel n hn; ⟨c, hc, ha.mv (Ext.refl ω) fun o e => s _ _ e⟩, r.apt, r.inj, r.xt⟩
/-- .. with its part that never changes -/
theorem Rp.grow {M' : Hp} (r : Rp Γ ω h H) (g : Mi.Grow H ω.M H' M') : Rp Γ ⟨ω.N, ω.ι, M'⟩ h H' ∧ Ext ω ⟨ω.N, ω.ι, M'⟩ := by
  have x : Ext ω ⟨ω.N, ω.ι, M'⟩ := ⟨Nat.le_refl _, fun _ _ => rfl, g.m⟩
  refine ⟨⟨r.nx, r.lim, g.s, fun n hn => ?_, fun n c hn hc lk => ?_, r.inj, Γ.xm _ _ x r.xt⟩, x⟩
  · obtain ⟨c, hc, ha⟩ := r.cel n hn
    exact ⟨c, hc, ha.mv x fun o e => g.h _ _ e⟩
  · show M' (ω.ι n) = none
    obtain ⟨c', hc', ha⟩ := r.cel n hn
    obtain ⟨o, ho⟩ := ha.there r.sub
    cases e : M' (ω.ι n) with
    | none => rfl
    | some u =>
      rcases g.n _ _ e with z | z
      · rw [r.apt n c hn hc lk] at z
        cases z
      · rw [ho] at z
        cases z
/-- a new thing that never changes -/
theorem Rp.newM {p : Addr} {o : HO} (r : Rp Γ ω h H) (n : H p = none) : Rp Γ ⟨ω.N, ω.ι, upd ω.M p o⟩ h (upd H p o) ∧ Ext ω ⟨ω.N, ω.ι, upd ω.M p o⟩ := r.grow (Mi.Grow.new r.sub n)
/-- a new cell -/
def Wd.push (ω : Wd) (p : Addr) : Wd := ⟨ω.N + 1, fun k => if k = ω.N then p else ω.ι k, ω.M⟩
theorem Wd.push_ext (ω : Wd) (p : Addr) : Ext ω (ω.push p) := ⟨Nat.le_succ _, fun k h => if_neg (Nat.ne_of_lt h), Same.refl _⟩
theorem push_at (ω : Wd) (p : Addr) : (ω.push p).ι ω.N = p := if_pos rfl
theorem get_push {h : Hs} {c : C} (hl : h.nx < 1000000000) : (h.push c).get h.nx = some c := Tr.get_put 40 h.t h.nx c (by omega)
theorem get_push_ne {h : Hs} {c : C} {n : Nat} (ne : n ≠ h.nx) : (h.push c).get n = h.get n := Tr.get_ne 40 h.t h.nx n c ne
theorem get_put {h : Hs} {c : C} {n : Nat} (hl : n < 1000000000) : (h.put n c).get n = some c := Tr.get_put 40 h.t n c (by omega)
theorem get_put_ne {h : Hs} {c : C} {n m : Nat} (ne : m ≠ n) : (h.put n c).get m = h.get m := Tr.get_ne 40 h.t n m c ne
theorem Rp.newC {p : Addr} {c : C} (r : Rp Γ ω h H) (n : H p = none) (hl : h.nx < 1000000000) (s : Same H H') (hc : CAt Γ (ω.push p) H' c p) : Rp Γ (ω.push p) (h.push c) H' := by
  have hN : ω.N < 1000000000 := by rw [← r.nx]; exact hl
  have far : ∀ k, k < ω.N → ω.ι k ≠ p := fun k hk e => by
    obtain ⟨c, _, ha⟩ := r.cel k hk
    obtain ⟨u, hu⟩ := ha.there r.sub
    rw [e, n] at hu
    cases hu
  have at_ : ∀ k, k < ω.N → (ω.push p).ι k = ω.ι k := fun k hk => (Wd.push_ext ω p).i k hk
  refine ⟨by show h.nx + 1 = ω.N + 1; rw [r.nx], by show ω.N + 1 ≤ _; omega, r.sub.trans s, fun k hk => ?_, fun k c' hk hc' lk => ?_, fun k m hk hm e => ?_, Γ.xm _ _ (Wd.push_ext ω p) r.xt⟩
  · have hk : k < ω.N + 1 := hk
    by_cases z : k = ω.N
    · subst z
      refine ⟨c, ?_, by rw [push_at]; exact hc⟩
      rw [← r.nx]
      exact get_push hl
    · have hk' : k < ω.N := by omega
      obtain ⟨c', h1, h2⟩ := r.cel k hk'
      refine ⟨c', ?_, ?_⟩
      · rw [get_push_ne (by rw [r.nx]; exact z)]
        exact h1
      · rw [at_ k hk']
        exact h2.mv (Wd.push_ext ω p) fun o e => s _ _ e
  · have hk : k < ω.N + 1 := hk
    show ω.M _ = none
    by_cases z : k = ω.N
    · subst z
      rw [push_at]
      exact r.sub.free n
    · rw [at_ k (by omega)]
      rw [get_push_ne (by rw [r.nx]; exact z)] at hc'
      exact r.apt k c' (by omega) hc' lk
  · have hk : k < ω.N + 1 := hk
    have hm : m < ω.N + 1 := hm
    by_cases z : k = ω.N
    · by_cases z' : m = ω.N
      · rw [z, z']
      · rw [z, push_at, at_ m (by omega)] at e
        exact absurd e.symm (far m (by omega))
    · by_cases z' : m = ω.N
      · rw [z', push_at, at_ k (by omega)] at e
        exact absurd e (far k (by omega))
      · rw [at_ k (by omega), at_ m (by omega)] at e
        exact r.inj k m (by omega) (by omega) e
/-- a cell changes -/
theorem Rp.write {n : Nat} {o : HO} {c c0 : C} (r : Rp Γ ω h H) (hn : n < ω.N) (h0 : h.get n = some c0) (l0 : c0.lkd = false) (hc : CAt Γ ω (upd H (ω.ι n) o) c (ω.ι n)) : Rp Γ ω (h.put n c) (upd H (ω.ι n) o) := by
  have lim := r.lim
  have ap := r.apt n c0 hn h0 l0
  refine ⟨r.nx, r.lim, fun b u e => ?_, fun k hk => ?_, fun k c' hk hc' lk => ?_, r.inj, r.xt⟩
  · rw [upd_ne (fun z => by rw [z, ap] at e; cases e)]
    exact r.sub b u e
  · by_cases z : k = n
    · subst z
      exact ⟨c, get_put (by omega), hc⟩
    · obtain ⟨c', h1, h2⟩ := r.cel k hk
      refine ⟨c', by rw [get_put_ne z]; exact h1, h2.mv (Ext.refl ω) fun o' e => ?_⟩
      rw [upd_ne fun q => z (r.inj k n hk hn q)]
      exact e
  · by_cases z : k = n
    · rw [z]
      exact ap
    · rw [get_put_ne z] at hc'
      exact r.apt k c' hk hc' lk
/-- what stands at a place -/
theorem Rp.at_ {n : Nat} {c : C} (r : Rp Γ ω h H) (hn : n < ω.N) (e : h.get n = some c) : CAt Γ ω H c (ω.ι n) := by
  obtain ⟨c', h1, h2⟩ := r.cel n hn
  rw [e] at h1
  cases h1
  exact h2

/-- slots -/
def SlAt (Γ : Gm) (ω : Wd) (S : List (Option D)) (σ : St) : Prop := S.length = σ.length ∧ ∀ (i : Nat) (d : D), S[i]? = some (some d) → ∃ v, σ[i]? = some (some v) ∧ (At Γ ω d v ∨ d = .exc ∧ ∃ a, Γ.xa = some a ∧ v = .ref a)
variable {S : List (Option D)} {σ : St}
theorem SlAt.ex (h : SlAt Γ ω S σ) (e : Ext ω ω') : SlAt Γ ω' S σ := ⟨h.1, fun i d hd => let ⟨v, hv, ha⟩ := h.2 i d hd; ⟨v, hv, ha.imp (fun z => z.ex e) id⟩⟩
theorem SlAt.setG {i : Nat} {d : D} {v : V} (h : SlAt Γ ω S σ) (ha : At Γ ω d v ∨ d = .exc ∧ ∃ a, Γ.xa = some a ∧ v = .ref a) : SlAt Γ ω (S.set i (some d)) (σ.set i (some v)) := by
  refine ⟨by rw [List.length_set, List.length_set]; exact h.1, fun j e hj => ?_⟩
  by_cases z : i = j
  · subst z
    have hi : i < S.length := by
      have := (List.getElem?_eq_some_iff.mp hj).1
      rw [List.length_set] at this
      exact this
    rw [List.getElem?_set_self hi] at hj
    cases hj
    exact ⟨v, List.getElem?_set_self (by rw [← h.1]; exact hi), ha⟩
  · rw [List.getElem?_set_ne z] at hj
    rw [List.getElem?_set_ne z]
    exact h.2 j e hj
theorem SlAt.set {i : Nat} {d : D} {v : V} (h : SlAt Γ ω S σ) (ha : At Γ ω d v) : SlAt Γ ω (S.set i (some d)) (σ.set i (some v)) := h.setG (.inl ha)
theorem SlAt.del {i : Nat} {w : Option V} (h : SlAt Γ ω S σ) : SlAt Γ ω (S.set i none) (σ.set i w) := by
  refine ⟨by rw [List.length_set, List.length_set]; exact h.1, fun j e hj => ?_⟩
  by_cases z : i = j
  · subst z
    have hi : i < S.length := by
      have := (List.getElem?_eq_some_iff.mp hj).1
      rw [List.length_set] at this
      exact this
    rw [List.getElem?_set_self hi] at hj
    cases hj
  · rw [List.getElem?_set_ne z] at hj
    rw [List.getElem?_set_ne z]
    exact h.2 j e hj
end

/-- an own error c with what it was made of -/
def ErrAt (Γ : Gm) (ω : Wd) (c : Nat) (d : Option D) (x : Option Addr) (H : Hp) : Prop := match Γ.ct.erf c, d with
  | none, none => x = none
  | some f, some e => ∃ p v, x = some p ∧ H p = some (.xd [(f, v)]) ∧ At Γ ω e v
  | _, _ => False
def OkR (Γ : Gm) (ω : Wd) (W : WX) (σ : St) {α : Type} (r : Rs α) (k : Wd → α → Hs → Hp → Prop) : Prop := match r with
  | .ok a h => ∀ ω' H', Ext ω ω' → Rp Γ ω' h H' → k ω' a h H'
  | .er c d h => ∀ ω' x H', Ext ω ω' → Rp Γ ω' h H' → ErrAt Γ ω' c d x H' → W (.ref (Γ.ct.err c)) x σ H'
  | .no => False
  | .all n f => ∀ i, i < n → OkR Γ ω W σ (f i) k
section
variable {Γ : Gm} {ω ω' : Wd} {W : WX} {σ : St} {α β : Type} {H : Hp} {h : Hs}
theorem OkR.ex {r : Rs α} {k : Wd → α → Hs → Hp → Prop} (q : OkR Γ ω W σ r k) (e : Ext ω ω') : OkR Γ ω' W σ r k := by
  induction r with
  | ok a h => exact fun ω2 H2 e2 r2 => q ω2 H2 (e.trans e2) r2
  | er c d h => exact fun ω2 x H2 e2 r2 => q ω2 x H2 (e.trans e2) r2
  | no => exact q
  | all n f ih => exact fun i hi => ih i (q i hi)
theorem OkR.mono {r : Rs α} {k k' : Wd → α → Hs → Hp → Prop} (q : OkR Γ ω W σ r k) (m : ∀ ω' a h' H', Ext ω ω' → Rp Γ ω' h' H' → k ω' a h' H' → k' ω' a h' H') : OkR Γ ω W σ r k' := by
  induction r with
  | ok a h => exact fun ω2 H2 e2 r2 => m ω2 a h H2 e2 r2 (q ω2 H2 e2 r2)
  | er c d h => exact q
  | no => exact q
  | all n f ih => exact fun i hi => ih i (q i hi)
theorem OkR.bind {r : Rs α} {f : α → Hs → Rs β} {k : Wd → β → Hs → Hp → Prop} (q : OkR Γ ω W σ (r.bind f) k) : OkR Γ ω W σ r fun ω' a h' H' => OkR Γ ω' W σ (f a h') k := by
  induction r with
  | ok a h => exact fun ω2 H2 e2 r2 => OkR.ex q e2
  | er c d h => exact q
  | no => exact q
  | all n g ih => exact fun i hi => ih i (q i hi)
/-- .. bind and mono in one -/
theorem OkR.step {r : Rs α} {f : α → Hs → Rs β} {k : Wd → β → Hs → Hp → Prop} {k' : Wd → α → Hs → Hp → Prop} (q : OkR Γ ω W σ (r.bind f) k) (m : ∀ ω' a h' H', Ext ω ω' → Rp Γ ω' h' H' → OkR Γ ω' W σ (f a h') k → k' ω' a h' H') : OkR Γ ω W σ r k' := q.bind.mono m
theorem OkR.here {a : α} {k : Wd → α → Hs → Hp → Prop} (q : OkR Γ ω W σ (.ok a h) k) (r : Rp Γ ω h H) : k ω a h H := q ω H (Ext.refl ω) r
theorem OkR.there {a : α} {k : Wd → α → Hs → Hp → Prop} (q : OkR Γ ω W σ (.ok a h) k) (e : Ext ω ω') (r : Rp Γ ω' h H) : k ω' a h H := q ω' H e r
theorem OkR.lift {o : Option α} {k : Wd → α → Hs → Hp → Prop} (q : OkR Γ ω W σ (lift h o) k) : ∃ a, o = some a ∧ OkR Γ ω W σ (.ok a h) k := by
  cases o with
  | none => exact q.elim
  | some a => exact ⟨a, rfl, q⟩
end
end He
end

/-! The heap evaluator: expressions, operators, tests. -/
noncomputable section
namespace He
open PySem L2
open PyProof.Rows hiding St

abbrev Sls := List (Option D)
abbrev Ef := Sls → Hs → Rs D
def tE (Γ : Gm) (W : WX) (f : Ef) : TE := fun σ H Q => ∃ ω S h, SlAt Γ ω S σ ∧ Rp Γ ω h H ∧ OkR Γ ω W σ (f S h) fun ω' d _ H' => ∀ v, At Γ ω' d v → Q v H'
def DE (X : Cx) (Γ : Gm) (W : WX) (e : Expr) (f : Ef) : Prop := PE X e (tE Γ W f)
theorem PE.or {X : Cx} {e : Expr} {t t' : TE} (h : PE X e t) (h' : PE X e t') : PE X e fun σ H Q => t σ H Q ∨ t' σ H Q := ⟨fun pins s σ H Q I q => q.elim (h.run pins s σ H Q I) (h'.run pins s σ H Q I)⟩
section
variable {X : Cx} {Γ : Gm} {W : WX} {e a b c : Expr} {fa fb fc f : Ef} {pos : Pos}
/-! ### constants, names -/
def fC (d : D) : Ef := fun _ h => .ok d h
theorem de_c {d : D} {v : V} (h : PE X e (tC v)) (hd : ∀ ω, At Γ ω d v) : DE X Γ W e (fC d) := Mi.PE.mono h fun σ H Q ⟨ω, S, h, sl, r, k⟩ => (k.here r) v (hd ω)
theorem de_int {i j pos} : DE X Γ W (.Constant (.int i) j pos) (fC (.int i)) := de_c pe_int fun _ => rfl
theorem de_bl {i j pos} : DE X Γ W (.Constant (.bool i) j pos) (fC (.bl i)) := de_c pe_bl fun _ => rfl
theorem de_non {j pos} : DE X Γ W (.Constant .none j pos) (fC .non) := de_c pe_non fun _ => rfl
theorem de_str {i j pos} : DE X Γ W (.Constant (.str i) j pos) (fC (.str i)) := de_c pe_str fun _ => rfl
def fV (i : Nat) : Ef := fun S h => match S[i]? with
  | some (some .exc) => .no
  | some (some d) => .ok d h
  | _ => .no
theorem de_v {i : Nat} (h : PE X e (tVar i)) : DE X Γ W e (fV i) := Mi.PE.mono h fun σ H Q ⟨ω, S, h, sl, r, k⟩ => by
  unfold fV at k
  split at k
  · exact k.elim
  · rename_i d ne hd
    obtain ⟨v, hv, ha⟩ := sl.2 i d hd
    exact ⟨v, hv, (k.here r) v (ha.resolve_right fun z => ne z.1)⟩
  · exact k.elim

/-! ### data without places as trees of the mirror layer -/
mutual
def toMi : D → Option Mi.D
  | .non => some .non
  | .bl b => some (.bl b)
  | .int i => some (.int i)
  | .str x => some (.str x)
  | .tup l => (toMis l).map .tup
  | .rat q => some (.rat q)
  | .loc _ => none
  | .gl _ => none
  | .exc => none
  | .scr => none
  | .kk => none
def toMis : List D → Option (List Mi.D)
  | [] => some []
  | d :: l => (toMi d).bind fun x => (toMis l).map fun xs => x :: xs
end
mutual
theorem toMi_at {ω : Wd} : ∀ {d : D} {m : Mi.D} {v : V}, toMi d = some m → At Γ ω d v → Mi.At Γ.ct ω.M m v
  | .non, _, _, e, h => by cases e; exact h
  | .bl _, _, _, e, h => by cases e; exact h
  | .int _, _, _, e, h => by cases e; exact h
  | .str _, _, _, e, h => by cases e; exact h
  | .tup l, _, _, e, h => by
    unfold toMi at e
    obtain ⟨xs, e1, rfl⟩ := Option.map_eq_some_iff.mp e
    obtain ⟨a, ys, rfl, ha, hs⟩ := h
    exact ⟨a, ys, rfl, ha, toMis_at e1 hs⟩
  | .rat q, _, _, e, h => by cases e; exact h
  | .loc _, _, _, e, _ => by unfold toMi at e; cases e
  | .gl _, _, _, e, _ => by unfold toMi at e; cases e
  | .exc, _, _, e, _ => by unfold toMi at e; cases e
  | .scr, _, _, e, _ => by unfold toMi at e; cases e
  | .kk, _, _, e, _ => by unfold toMi at e; cases e
theorem toMis_at {ω : Wd} : ∀ {l : List D} {ms : List Mi.D} {vs : List V}, toMis l = some ms → Ats Γ ω l vs → Mi.Ats Γ.ct ω.M ms vs
  | [], _, _, e, h => by cases e; exact h
  | d :: l, _, _, e, h => by
    unfold toMis at e
    obtain ⟨x, e1, e⟩ := Option.bind_eq_some_iff.mp e
    obtain ⟨xs, e2, rfl⟩ := Option.map_eq_some_iff.mp e
    obtain ⟨y, r, rfl, h1, h2⟩ := h
    exact ⟨y, r, rfl, toMi_at e1 h1, toMis_at e2 h2⟩
end
mutual
def ofMi : Mi.D → Option D
  | .non => some .non
  | .bl b => some (.bl b)
  | .int i => some (.int i)
  | .str x => some (.str x)
  | .tup l => (ofMis l).map .tup
  | .rat q => some (.rat q)
  | _ => none
def ofMis : List Mi.D → Option (List D)
  | [] => some []
  | d :: l => (ofMi d).bind fun x => (ofMis l).map fun xs => x :: xs
end
mutual
theorem ofMi_at {ω : Wd} : ∀ {m : Mi.D} {d : D} {v : V}, ofMi m = some d → Mi.At Γ.ct ω.M m v → At Γ ω d v
  | .non, _, _, e, h => by cases e; exact h
  | .bl _, _, _, e, h => by cases e; exact h
  | .int _, _, _, e, h => by cases e; exact h
  | .str _, _, _, e, h => by cases e; exact h
  | .tup l, _, _, e, h => by
    unfold ofMi at e
    obtain ⟨xs, e1, rfl⟩ := Option.map_eq_some_iff.mp e
    obtain ⟨a, ys, rfl, ha, hs⟩ := h
    exact ⟨a, ys, rfl, ha, ofMis_at e1 hs⟩
  | .rat q, _, _, e, h => by cases e; exact h
  | .lst _, _, _, e, _ => by unfold ofMi at e; cases e
  | .dic _ _, _, _, e, _ => by unfold ofMi at e; cases e
  | .obj _ _, _, _, e, _ => by unfold ofMi at e; cases e
theorem ofMis_at {ω : Wd} : ∀ {ms : List Mi.D} {l : List D} {vs : List V}, ofMis ms = some l → Mi.Ats Γ.ct ω.M ms vs → Ats Γ ω l vs
  | [], _, _, e, h => by cases e; exact h
  | d :: l, _, _, e, h => by
    unfold ofMis at e
    obtain ⟨x, e1, e⟩ := Option.bind_eq_some_iff.mp e
    obtain ⟨xs, e2, rfl⟩ := Option.map_eq_some_iff.mp e
    obtain ⟨y, r, rfl, h1, h2⟩ := h
    exact ⟨y, r, rfl, ofMi_at e1 h1, ofMis_at e2 h2⟩
end
/-- what a rule of the mirror layer gives -/
def outMi : Mi.Sl → Option D
  | .va z => ofMi z
  | _ => none
theorem post_out {ω : Wd} {h : Hs} {H H' : Hp} {r : Mi.Sl} {v : V} {d : D} (R : Rp Γ ω h H) (e : outMi r = some d) (p : Mi.Post Γ.ct H ω.M r v H') : ∃ ω', Ext ω ω' ∧ Rp Γ ω' h H' ∧ At Γ ω' d v := by
  cases r with
  | va z =>
    obtain ⟨M', g, ha⟩ := p
    obtain ⟨r', x⟩ := R.grow g
    exact ⟨_, x, r', ofMi_at (ω := ⟨ω.N, ω.ι, M'⟩) e ha⟩
  | _ => cases e

/-! ### data with their cells as trees -/
mutual
def rei (h : Hs) : Nat → D → Option Mi.D
  | 0, _ => none
  | n + 1, .tup l => (reis h n l).map .tup
  | n + 1, .loc k => match h.get k with
    | some (.lst l) => (reis h n l).map .lst
    | some (.dic false ks l) => (reis h n l).map (.dic ks)
    | _ => none
  | _ + 1, .non => some .non
  | _ + 1, .bl b => some (.bl b)
  | _ + 1, .int i => some (.int i)
  | _ + 1, .str x => some (.str x)
  | _ + 1, .rat q => some (.rat q)
  | _ + 1, .gl _ => none
  | _ + 1, .exc => none
  | _ + 1, .scr => none
  | _ + 1, .kk => none
def reis (h : Hs) : Nat → List D → Option (List Mi.D)
  | 0, _ => none
  | _ + 1, [] => some []
  | n + 1, d :: l => (rei h n d).bind fun x => (reis h n l).map fun xs => x :: xs
end
theorem rei_at_all {ω : Wd} {h : Hs} {H : Hp} (R : Rp Γ ω h H) : ∀ n, (∀ {d : D} {m : Mi.D} {v : V}, rei h n d = some m → At Γ ω d v → Mi.At Γ.ct H m v) ∧ ∀ {l : List D} {ms : List Mi.D} {vs : List V}, reis h n l = some ms → Ats Γ ω l vs → Mi.Ats Γ.ct H ms vs
  | 0 => ⟨fun e _ => (by unfold rei at e; cases e), fun e _ => (by unfold reis at e; cases e)⟩
  | n + 1 => by
    obtain ⟨i1, i2⟩ := rei_at_all R n
    refine ⟨fun {d m v} e q => ?_, fun {l ms vs} e q => ?_⟩
    · unfold rei at e
      cases d with
      | non => cases e; exact q
      | bl b => cases e; exact q
      | int b => cases e; exact q
      | str b => cases e; exact q
      | gl g => cases e
      | exc => cases e
      | scr => cases e
      | kk => cases e
      | rat z =>
        cases e
        obtain ⟨a, dx, rfl, ha⟩ := q
        exact ⟨a, dx, rfl, R.sub _ _ ha⟩
      | tup l =>
        obtain ⟨xs, e1, rfl⟩ := Option.map_eq_some_iff.mp e
        obtain ⟨a, ys, rfl, ha, hs⟩ := q
        exact ⟨a, ys, rfl, R.sub _ _ ha, i2 e1 hs⟩
      | loc k =>
        obtain ⟨hk, rfl⟩ := q
        dsimp only at e
        split at e
        · rename_i l hl
          obtain ⟨xs, e1, rfl⟩ := Option.map_eq_some_iff.mp e
          obtain ⟨ys, ha, hs⟩ := R.at_ hk hl
          exact ⟨_, ys, rfl, ha, i2 e1 hs⟩
        · rename_i ks l hl
          obtain ⟨xs, e1, rfl⟩ := Option.map_eq_some_iff.mp e
          obtain ⟨kvs, ha, hkk, hs⟩ := R.at_ hk hl
          exact ⟨_, kvs, rfl, ha, hkk, i2 e1 hs⟩
        · cases e
    · unfold reis at e
      cases l with
      | nil => cases e; exact q
      | cons d l =>
        dsimp only at e
        obtain ⟨x, e1, e⟩ := Option.bind_eq_some_iff.mp e
        obtain ⟨xs, e2, rfl⟩ := Option.map_eq_some_iff.mp e
        obtain ⟨y, r, rfl, h1, h2⟩ := q
        exact ⟨y, r, rfl, i1 e1 h1, i2 e2 h2⟩
theorem rei_at {ω : Wd} {h : Hs} {H : Hp} (R : Rp Γ ω h H) {n : Nat} {d : D} {m : Mi.D} {v : V} (e : rei h n d = some m) (q : At Γ ω d v) : Mi.At Γ.ct H m v := (rei_at_all R n).1 e q
/-- a flat answer -/
def outFl : Mi.Sl → Option D
  | .va .non => some .non
  | .va (.bl b) => some (.bl b)
  | .va (.int i) => some (.int i)
  | .va (.str x) => some (.str x)
  | _ => none
theorem post_fl {ω : Wd} {h : Hs} {H H' : Hp} {r : Mi.Sl} {v : V} {d : D} (R : Rp Γ ω h H) (e : outFl r = some d) (p : Mi.Post Γ.ct H H r v H') : Rp Γ ω h H' ∧ At Γ ω d v := by
  obtain ⟨M', g, ha⟩ := p
  refine ⟨R.same g.h, ?_⟩
  unfold outFl at e
  split at e <;> first | (cases e; exact ha) | cases e

/-! ### operators -/
abbrev WN : WX := fun _ _ _ _ => False
abbrev S2 := D → D → Hs → Rs D
def OpH (X : Cx) (Γ : Gm) (f : Value → Value → Sem Value) (sem : S2) : Prop := ∃ R : R2, OpR X f R ∧ ∀ (ω : Wd) (h : Hs) (H : Hp) (x y : V) (d e : D) (Q : VK), Rp Γ ω h H → At Γ ω d x → At Γ ω e y → OkR Γ ω WN [] (sem d e h) (fun ω' z _ H' => ∀ v, At Γ ω' z v → Q v H') → R x y H Q
def Rs.or {α : Type} : Rs α → Rs α → Rs α
  | .no, r => r
  | r, _ => r
def s2or (s s' : S2) : S2 := fun d e h => (s d e h).or (s' d e h)
theorem OpH.or {f : Value → Value → Sem Value} {s s' : S2} (h1 : OpH X Γ f s) (h2 : OpH X Γ f s') : OpH X Γ f (s2or s s') := by
  obtain ⟨R, a1, a2⟩ := h1
  obtain ⟨R', b1, b2⟩ := h2
  refine ⟨_, a1.or b1, fun ω h H x y d e Q r hx hy k => ?_⟩
  unfold s2or at k
  cases e1 : s d e h with
  | no => rw [e1] at k; exact .inr (b2 ω h H x y d e Q r hx hy k)
  | ok z h' => rw [e1] at k; exact .inl (a2 ω h H x y d e Q r hx hy (by rw [e1]; exact k))
  | er z u h' => rw [e1] at k; exact .inl (a2 ω h H x y d e Q r hx hy (by rw [e1]; exact k))
  | all n f => rw [e1] at k; exact .inl (a2 ω h H x y d e Q r hx hy (by rw [e1]; exact k))
def fB (sem : S2) (fa fb : Ef) : Ef := fun S h => (fa S h).bind fun a h1 => (fb S h1).bind fun b h2 => sem a b h2
/-- an operation never raises -/
theorem OkR.noW {ω : Wd} {σ : St} {α : Type} {r : Rs α} {k : Wd → α → Hs → Hp → Prop} (q : OkR Γ ω WN [] r k) : OkR Γ ω W σ r k := by
  induction r with
  | ok a h => exact q
  | er c d h => exact fun ω' x H' e r z => (q ω' x H' e r z).elim
  | no => exact q
  | all n f ih => exact fun i hi => ih i (q i hi)
/-- an answer that does not raise -/
def pur {α : Type} (r : Rs α) : Rs α := Rs.rec (motive := fun _ => Rs α) (fun a h => .ok a h) (fun _ _ _ => .no) .no (fun n _ ih => .all n ih) r
theorem OkR.pur {ω : Wd} {σ σ' : St} {W' : WX} {α : Type} {r : Rs α} {k : Wd → α → Hs → Hp → Prop} (q : OkR Γ ω W σ (pur r) k) : OkR Γ ω W' σ' r k := by
  induction r with
  | ok a h => exact q
  | er c d h => exact q.elim
  | no => exact q.elim
  | all n f ih => exact fun i hi => ih i (q i hi)
theorem fB_ok {sem : S2} {R : R2} (ho : ∀ (ω : Wd) (h : Hs) (H : Hp) (x y : V) (d e : D) (Q : VK), Rp Γ ω h H → At Γ ω d x → At Γ ω e y → OkR Γ ω WN [] (sem d e h) (fun ω' z _ H' => ∀ v, At Γ ω' z v → Q v H') → R x y H Q) :
    ∀ σ H Q, tE Γ W (fB (fun d e h => pur (sem d e h)) fa fb) σ H Q → tOp R (tE Γ W fa) (tE Γ W fb) σ H Q := by
  rintro σ H Q ⟨ω, S, h, sl, r, k⟩
  exact ⟨ω, S, h, sl, r, k.step fun ω1 d h1 H1 e1 r1 k1 x hx => ⟨ω1, S, h1, sl.ex e1, r1, k1.step fun ω2 z h2 H2 e2 r2 k2 y hy => ho ω2 h2 H2 x y d z Q r2 (hx.ex e2) hy k2.pur⟩⟩
abbrev pS (sem : S2) : S2 := fun d e h => pur (sem d e h)
theorem de_op {op : Operator} {sem : S2} (ho : OpH X Γ (binaryOp op) sem) (ha : DE X Γ W a fa) (hb : DE X Γ W b fb) : DE X Γ W (.BinOp a op b pos) (fB (pS sem) fa fb) := by
  obtain ⟨R, h1, h2⟩ := ho
  exact Mi.PE.mono (pe_op h1 ha hb) (fB_ok h2)
theorem de_cmp {op : CmpOp} {sem : S2} (ho : OpH X Γ (compareOp op) sem) (ha : DE X Γ W a fa) (hb : DE X Γ W b fb) (hm : behindInMarks op b = false) : DE X Γ W (.Compare a [op] [b] pos) (fB (pS sem) fa fb) := by
  obtain ⟨R, h1, h2⟩ := ho
  exact Mi.PE.mono (pe_cmpR h1 ha hb hm) (fB_ok h2)
/-- by the mirror layer: data without places -/
def s2M (sem : Mi.D → Mi.D → Option Mi.Sl) : S2 := fun d e h => lift h ((toMi d).bind fun x => (toMi e).bind fun y => (sem x y).bind outMi)
theorem OpH.mi {f : Value → Value → Sem Value} {sem : Mi.D → Mi.D → Option Mi.Sl} (ho : Mi.OpD X Γ.ct f sem) : OpH X Γ f (s2M sem) := by
  obtain ⟨R, h1, h2⟩ := ho
  refine ⟨R, h1, fun ω h H x y d e Q r hx hy k => ?_⟩
  obtain ⟨z, hz, k⟩ := k.lift
  obtain ⟨m, e1, hz⟩ := Option.bind_eq_some_iff.mp hz
  obtain ⟨n, e2, hz⟩ := Option.bind_eq_some_iff.mp hz
  obtain ⟨u, e3, hz⟩ := Option.bind_eq_some_iff.mp hz
  refine h2 H ω.M x y m n u Q r.sub ((toMi_at e1 hx).top r.sub) ((toMi_at e2 hy).top r.sub) e3 fun v H' p => ?_
  obtain ⟨ω', x', r', ha⟩ := post_out r hz p
  exact (k.there x' r') v ha
/-- .. any data, a flat answer -/
def s2R (n : Nat) (sem : Mi.D → Mi.D → Option Mi.Sl) : S2 := fun d e h => lift h ((rei h n d).bind fun x => (rei h n e).bind fun y => (sem x y).bind outFl)
theorem OpH.rei {n : Nat} {f : Value → Value → Sem Value} {sem : Mi.D → Mi.D → Option Mi.Sl} (ho : Mi.OpD X Γ.ct f sem) : OpH X Γ f (s2R n sem) := by
  obtain ⟨R, h1, h2⟩ := ho
  refine ⟨R, h1, fun ω h H x y d e Q r hx hy k => ?_⟩
  obtain ⟨z, hz, k⟩ := k.lift
  obtain ⟨m, e1, hz⟩ := Option.bind_eq_some_iff.mp hz
  obtain ⟨l, e2, hz⟩ := Option.bind_eq_some_iff.mp hz
  obtain ⟨u, e3, hz⟩ := Option.bind_eq_some_iff.mp hz
  refine h2 H H x y m l u Q (Same.refl H) ((rei_at r e1 hx).top (Same.refl H)) ((rei_at r e2 hy).top (Same.refl H)) e3 fun v H' p => ?_
  obtain ⟨r', ha⟩ := post_fl r hz p
  exact (k.here r') v ha
/-- lists: xs + ys -/
def s2cat : S2 := fun d e h => match d, e with
  | .loc i, .loc j => match h.get i, h.get j with
    | some (.lst l), some (.lst m) => if l.length + m.length ≤ 100000 ∧ h.nx < 1000000000 then .ok (.loc h.nx) (h.push (.lst (l ++ m))) else .no
    | _, _ => .no
  | _, _ => .no
theorem od_cat : OpH X Γ (binaryOp .Add) s2cat := by
  refine ⟨_, op_cat, fun ω h H x y d e Q r hx hy k => ?_⟩
  unfold s2cat at k
  split at k
  · rename_i i j
    split at k
    · rename_i l m e1 e2
      split at k
      · rename_i hl
        obtain ⟨hi, rfl⟩ := hx
        obtain ⟨hj, rfl⟩ := hy
        obtain ⟨xs, ha, hxs⟩ := r.at_ hi e1
        obtain ⟨ys, hb, hys⟩ := r.at_ hj e2
        refine ⟨_, _, xs, ys, rfl, rfl, ha, hb, by rw [hxs.len, hys.len]; exact Evl.sz_of hl.1, fun p hp => ?_⟩
        have s : Same H (upd H p (.lst (xs ++ ys))) := fun b u q => by rw [upd_ne (ne_of_none q hp)]; exact q
        have x1 := Wd.push_ext ω p
        refine (k.there x1 (r.newC hp hl.2 s ⟨_, upd_same, (hxs.append hys).ex x1⟩)) _ ⟨?_, ?_⟩
        · show h.nx < ω.N + 1
          rw [r.nx]
          omega
        · rw [r.nx, push_at]
      · exact k.elim
    · exact k.elim
  · exact k.elim
/-- xs * n -/
def s2rep : S2 := fun d e h => match d, e with
  | .loc i, .int n => match h.get i with
    | some (.lst l) => if l.length * n.toNat ≤ 100000 ∧ n.natAbs ≤ 100000 ∧ h.nx < 1000000000 then .ok (.loc h.nx) (h.push (.lst (List.replicate n.toNat l).flatten)) else .no
    | _ => .no
  | _, _ => .no
theorem Ats.rep {ω : Wd} {l : List D} {xs : List V} (h : Ats Γ ω l xs) : ∀ k : Nat, Ats Γ ω (List.replicate k l).flatten (List.replicate k xs).flatten
  | 0 => rfl
  | k + 1 => by
    rw [List.replicate_succ, List.replicate_succ, List.flatten_cons, List.flatten_cons]
    exact h.append (Ats.rep h k)
theorem new_loc {ω : Wd} {h : Hs} {H : Hp} (r : Rp Γ ω h H) (p : Addr) : At Γ (ω.push p) (.loc h.nx) (.ref p) := by
  refine ⟨?_, ?_⟩
  · show h.nx < ω.N + 1
    rw [r.nx]
    omega
  · rw [r.nx, push_at]
theorem same_new {H : Hp} {p : Addr} {o : HO} (hp : H p = none) : Same H (upd H p o) := fun b u q => by rw [upd_ne (ne_of_none q hp)]; exact q
theorem od_rep : OpH X Γ (binaryOp .Mult) s2rep := by
  refine ⟨_, op_rep, fun ω h H x y d e Q r hx hy k => ?_⟩
  unfold s2rep at k
  split at k
  · rename_i i n
    split at k
    · rename_i l e1
      split at k
      · rename_i hl
        obtain ⟨hi, rfl⟩ := hx
        obtain rfl := hy
        obtain ⟨xs, ha, hxs⟩ := r.at_ hi e1
        refine ⟨_, _, xs, rfl, rfl, ha, by omega, by omega, by rw [hxs.len]; exact Evl.sz_of hl.1, fun p hp => ?_⟩
        have x1 := Wd.push_ext ω p
        exact (k.there x1 (r.newC hp hl.2.2 (same_new hp) ⟨_, upd_same, (hxs.rep _).ex x1⟩)) _ (new_loc r p)
      · exact k.elim
    · exact k.elim
  · exact k.elim
/-! ### one operand -/
abbrev S1 := D → Hs → Rs D
def UnH (X : Cx) (Γ : Gm) (f : Value → Sem Value) (sem : S1) : Prop := ∃ R : V → Hp → VK → Prop, UnR X f R ∧ ∀ (ω : Wd) (h : Hs) (H : Hp) (x : V) (d : D) (Q : VK), Rp Γ ω h H → At Γ ω d x → OkR Γ ω WN [] (sem d h) (fun ω' z _ H' => ∀ v, At Γ ω' z v → Q v H') → R x H Q
def fU (sem : S1) (fa : Ef) : Ef := fun S h => (fa S h).bind fun a h1 => sem a h1
abbrev pS1 (sem : S1) : S1 := fun d h => pur (sem d h)
theorem fU_ok {sem : S1} {R : V → Hp → VK → Prop} (ho : ∀ (ω : Wd) (h : Hs) (H : Hp) (x : V) (d : D) (Q : VK), Rp Γ ω h H → At Γ ω d x → OkR Γ ω WN [] (sem d h) (fun ω' z _ H' => ∀ v, At Γ ω' z v → Q v H') → R x H Q) :
    ∀ σ H Q, tE Γ W (fU (pS1 sem) fa) σ H Q → tE Γ W fa σ H fun x H1 => R x H1 Q := by
  rintro σ H Q ⟨ω, S, h, sl, r, k⟩
  exact ⟨ω, S, h, sl, r, k.step fun ω1 d h1 H1 e1 r1 k1 x hx => ho ω1 h1 H1 x d Q r1 hx k1.pur⟩
theorem de_un {op : UnaryOp} {sem : S1} (ho : UnH X Γ (unaryOp op) sem) (ha : DE X Γ W a fa) : DE X Γ W (.UnaryOp op a pos) (fU (pS1 sem) fa) := by
  obtain ⟨R, h1, h2⟩ := ho
  exact Mi.PE.mono (pe_un h1 ha) (fU_ok h2)
def s1M (sem : Mi.D → Option Mi.Sl) : S1 := fun d h => lift h ((toMi d).bind fun x => (sem x).bind outMi)
theorem UnH.mi {f : Value → Sem Value} {sem : Mi.D → Option Mi.Sl} (ho : Mi.UnD X Γ.ct f sem) : UnH X Γ f (s1M sem) := by
  obtain ⟨R, h1, h2⟩ := ho
  refine ⟨R, h1, fun ω h H x d Q r hx k => ?_⟩
  obtain ⟨z, hz, k⟩ := k.lift
  obtain ⟨m, e1, hz⟩ := Option.bind_eq_some_iff.mp hz
  obtain ⟨u, e3, hz⟩ := Option.bind_eq_some_iff.mp hz
  refine h2 H ω.M x m u Q r.sub ((toMi_at e1 hx).top r.sub) e3 fun v H' p => ?_
  obtain ⟨ω', x', r', ha⟩ := post_out r hz p
  exact (k.there x' r') v ha

/-! ### tests -/
abbrev Tf := Sls → Hs → Rs Bool
def tT (Γ : Gm) (W : WX) (g : Tf) : TT := fun σ H Q => ∃ ω S h, SlAt Γ ω S σ ∧ Rp Γ ω h H ∧ OkR Γ ω W σ (g S h) fun ω' b _ H' => Q b H'
def DT (X : Cx) (Γ : Gm) (W : WX) (e : Expr) (g : Tf) : Prop := PT X e (tT Γ W g)
def DW (X : Cx) (Γ : Gm) (W : WX) (e : Expr) (g : Tf) : Prop := PW X e (tT Γ W g)
def tru (h : Hs) : D → Option Bool
  | .non => some false
  | .bl b => some b
  | .int i => some (i != 0)
  | .str x => if x.length ≤ 100000 then some ((x.length : Int) != 0) else none
  | .tup l => some (!l.isEmpty)
  | .loc k => match h.get k with
    | some (.lst l) => some (!l.isEmpty)
    | some (.dic false ks _) => some (!ks.isEmpty)
    | _ => none
  | _ => none
def gT (f : Ef) : Tf := fun S h => (f S h).bind fun a h1 => lift h1 (tru h1 a)
theorem tru_at {ω : Wd} {h : Hs} {H : Hp} {d : D} {v : V} {k : Bool} (r : Rp Γ ω h H) (q : At Γ ω d v) (e : tru h d = some k) : TruV X.K v H k := by
  cases d with
  | non => obtain rfl := q; cases e; rfl
  | bl b => obtain rfl := q; cases e; rfl
  | int i => obtain rfl := q; cases e; rfl
  | str x =>
    obtain rfl := q
    dsimp only [tru] at e
    split at e
    · cases e
      exact ⟨Evl.sz_of (by assumption), rfl⟩
    · cases e
  | tup l =>
    obtain ⟨p, xs, rfl, hp, hs⟩ := q
    cases e
    exact .inr (.inl ⟨xs, SqT.of (r.sub _ _ hp), (Mi.isEmpty_len hs.len).symm⟩)
  | rat z => cases e
  | gl g => cases e
  | exc => cases e
  | scr => cases e
  | kk => cases e
  | loc n =>
    obtain ⟨hn, rfl⟩ := q
    dsimp only [tru] at e
    split at e
    · rename_i l hl
      cases e
      obtain ⟨xs, ha, hs⟩ := r.at_ hn hl
      exact .inl ⟨xs, SqL.of ha, (Mi.isEmpty_len hs.len).symm⟩
    · rename_i ks l hl
      cases e
      obtain ⟨kvs, ha, hk, hs⟩ := r.at_ hn hl
      refine .inr (.inr ⟨kvs, ha, ?_⟩)
      rw [← hk]
      cases kvs <;> rfl
    · cases e
variable {g g' : Tf} {rest : List Expr}
theorem gT_ok : ∀ σ H Q, tT Γ W (gT f) σ H Q → tE Γ W f σ H fun x H' => ∃ k, TruV X.K x H' k ∧ Q k H' := by
  rintro σ H Q ⟨ω, S, h, sl, r, k⟩
  refine ⟨ω, S, h, sl, r, k.step fun ω1 d h1 H1 e1 r1 k1 x hx => ?_⟩
  obtain ⟨b, hb, k2⟩ := k1.lift
  exact ⟨b, tru_at r1 hx hb, k2.here r1⟩
theorem dt_e (h : DE X Γ W e f) (he : ∀ whole, isTrue e X.env whole = (do let v ← whole; standAt e.pos; holding [v] (truthy v))) : DT X Γ W e (gT f) := Mi.PT.mono (pt_truth h he) gT_ok
/-- a comparison as a test -/
def blD : D → Option Bool
  | .bl b => some b
  | _ => none
def gB (f : Ef) : Tf := fun S h => (f S h).bind fun a h1 => lift h1 (blD a)
theorem blD_at {ω : Wd} {d : D} {v : V} {b : Bool} (q : At Γ ω d v) (e : blD d = some b) : v = .bl b := by
  cases d <;> first | (cases e; exact q) | cases e
theorem gB_ok : ∀ σ H Q, tT Γ W (gB f) σ H Q → tE Γ W f σ H fun x H' => ∃ k, x = .bl k ∧ Q k H' := by
  rintro σ H Q ⟨ω, S, h, sl, r, k⟩
  refine ⟨ω, S, h, sl, r, k.step fun ω1 d h1 H1 e1 r1 k1 x hx => ?_⟩
  obtain ⟨b, hb, k2⟩ := k1.lift
  exact ⟨b, blD_at hx hb, k2.here r1⟩
theorem dt_cmp {op : CmpOp} {sem : S2} (ho : OpH X Γ (compareOp op) sem) (ha : DE X Γ W a fa) (hb : DE X Γ W b fb) (hm : behindInMarks op b = false) : DT X Γ W (.Compare a [op] [b] pos) (gB (fB (pS sem) fa fb)) := by
  obtain ⟨R, h1, h2⟩ := ho
  exact Mi.PT.mono (pt_cmpR h1 ha hb hm) fun σ H Q q => fB_ok h2 σ H _ (gB_ok σ H Q q)
def gNot (g : Tf) : Tf := fun S h => (g S h).bind fun b h1 => .ok (!b) h1
theorem dt_not (h : DT X Γ W a g) : DT X Γ W (.UnaryOp .Not a pos) (gNot g) := Mi.PT.mono (pt_not h) fun σ H Q ⟨ω, S, h, sl, r, k⟩ => ⟨ω, S, h, sl, r, k.step fun ω1 b h1 H1 e1 r1 k1 => k1.here r1⟩
def gAnd (g g' : Tf) : Tf := fun S h => (g S h).bind fun b h1 => match b with
  | true => g' S h1
  | false => .ok false h1
def gOr (g g' : Tf) : Tf := fun S h => (g S h).bind fun b h1 => match b with
  | true => .ok true h1
  | false => g' S h1
theorem dw_and1 (h : DT X Γ W a g) : DW X Γ W (.BoolOp .And [a] pos) g := pw_and1 h
theorem dw_or1 (h : DT X Γ W a g) : DW X Γ W (.BoolOp .Or [a] pos) g := pw_or1 h
theorem dw_and (h : DT X Γ W a g) (h' : DW X Γ W (.BoolOp .And (b :: rest) pos) g') : DW X Γ W (.BoolOp .And (a :: b :: rest) pos) (gAnd g g') := Mi.PW.mono (pw_and h h') fun σ H Q ⟨ω, S, h, sl, r, k⟩ => ⟨ω, S, h, sl, r, k.step fun ω1 b h1 H1 e1 r1 k1 => by
  cases b with
  | true => rw [if_pos rfl]; exact ⟨ω1, S, h1, sl.ex e1, r1, k1⟩
  | false => rw [if_neg Bool.false_ne_true]; exact k1.here r1⟩
theorem dw_or (h : DT X Γ W a g) (h' : DW X Γ W (.BoolOp .Or (b :: rest) pos) g') : DW X Γ W (.BoolOp .Or (a :: b :: rest) pos) (gOr g g') := Mi.PW.mono (pw_or h h') fun σ H Q ⟨ω, S, h, sl, r, k⟩ => ⟨ω, S, h, sl, r, k.step fun ω1 b h1 H1 e1 r1 k1 => by
  cases b with
  | true => rw [if_pos rfl]; exact k1.here r1
  | false => rw [if_neg Bool.false_ne_true]; exact ⟨ω1, S, h1, sl.ex e1, r1, k1⟩⟩
theorem dt_w (h : DW X Γ W e g) : DT X Γ W e g := PW.pt h
/-! as values -/
def fIf (g : Tf) (fa fb : Ef) : Ef := fun S h => (g S h).bind fun b h1 => match b with
  | true => fa S h1
  | false => fb S h1
theorem de_if (hg : DT X Γ W c g) (ha : DE X Γ W a fa) (hb : DE X Γ W b fb) : DE X Γ W (.IfExp c a b pos) (fIf g fa fb) := Mi.PE.mono (pe_ifExp hg ha hb) fun σ H Q ⟨ω, S, h, sl, r, k⟩ => ⟨ω, S, h, sl, r, k.step fun ω1 b h1 H1 e1 r1 k1 => by
  cases b with
  | true => rw [if_pos rfl]; exact ⟨ω1, S, h1, sl.ex e1, r1, k1⟩
  | false => rw [if_neg Bool.false_ne_true]; exact ⟨ω1, S, h1, sl.ex e1, r1, k1⟩⟩
/-- and, or, not by truth -/
def fAnd (fa fb : Ef) : Ef := fun S h => (fa S h).bind fun a h1 => match tru h1 a with
  | some true => fb S h1
  | some false => .ok a h1
  | none => .no
def fOr (fa fb : Ef) : Ef := fun S h => (fa S h).bind fun a h1 => match tru h1 a with
  | some true => .ok a h1
  | some false => fb S h1
  | none => .no
def fNot (fa : Ef) : Ef := fun S h => (fa S h).bind fun a h1 => match tru h1 a with
  | some b => .ok (.bl !b) h1
  | none => .no
theorem de_one {op} (h : DE X Γ W a fa) : DE X Γ W (.BoolOp op [a] pos) fa := pe_one h
theorem de_and (ha : DE X Γ W a fa) (hb : DE X Γ W (.BoolOp .And (b :: rest) pos) fb) : DE X Γ W (.BoolOp .And (a :: b :: rest) pos) (fAnd fa fb) := Mi.PE.mono (pe_andT ha hb) fun σ H Q ⟨ω, S, h, sl, r, k⟩ => ⟨ω, S, h, sl, r, k.step fun ω1 d h1 H1 e1 r1 k1 x hx => by
  split at k1
  · rename_i hb
    exact ⟨true, tru_at r1 hx hb, by rw [if_pos rfl]; exact ⟨ω1, S, h1, sl.ex e1, r1, k1⟩⟩
  · rename_i hb
    exact ⟨false, tru_at r1 hx hb, by rw [if_neg Bool.false_ne_true]; exact k1.here r1 x hx⟩
  · exact k1.elim⟩
theorem de_or (ha : DE X Γ W a fa) (hb : DE X Γ W (.BoolOp .Or (b :: rest) pos) fb) : DE X Γ W (.BoolOp .Or (a :: b :: rest) pos) (fOr fa fb) := Mi.PE.mono (pe_orT ha hb) fun σ H Q ⟨ω, S, h, sl, r, k⟩ => ⟨ω, S, h, sl, r, k.step fun ω1 d h1 H1 e1 r1 k1 x hx => by
  split at k1
  · rename_i hb
    exact ⟨true, tru_at r1 hx hb, by rw [if_pos rfl]; exact k1.here r1 x hx⟩
  · rename_i hb
    exact ⟨false, tru_at r1 hx hb, by rw [if_neg Bool.false_ne_true]; exact ⟨ω1, S, h1, sl.ex e1, r1, k1⟩⟩
  · exact k1.elim⟩
theorem de_not (ha : DE X Γ W a fa) : DE X Γ W (.UnaryOp .Not a pos) (fNot fa) := Mi.PE.mono (pe_notT ha) fun σ H Q ⟨ω, S, h, sl, r, k⟩ => ⟨ω, S, h, sl, r, k.step fun ω1 d h1 H1 e1 r1 k1 x hx => by
  split at k1
  · rename_i b hb
    exact ⟨b, tru_at r1 hx hb, k1.here r1 _ rfl⟩
  · exact k1.elim⟩
/-- a op b op' c -/
def fCh (sem sem' : S2) (fa fb fc : Ef) : Ef := fun S h => (fa S h).bind fun a h1 => (fb S h1).bind fun b h2 => (pur (sem a b h2)).bind fun z h3 => match z with
  | .bl true => (fc S h3).bind fun c h4 => pur (sem' b c h4)
  | .bl false => .ok (.bl false) h3
  | _ => .no
theorem fCh_ok {sem sem' : S2} {R R' : R2} (ho : ∀ (ω : Wd) (h : Hs) (H : Hp) (x y : V) (d e : D) (Q : VK), Rp Γ ω h H → At Γ ω d x → At Γ ω e y → OkR Γ ω WN [] (sem d e h) (fun ω' z _ H' => ∀ v, At Γ ω' z v → Q v H') → R x y H Q)
    (ho' : ∀ (ω : Wd) (h : Hs) (H : Hp) (x y : V) (d e : D) (Q : VK), Rp Γ ω h H → At Γ ω d x → At Γ ω e y → OkR Γ ω WN [] (sem' d e h) (fun ω' z _ H' => ∀ v, At Γ ω' z v → Q v H') → R' x y H Q) :
    ∀ σ H Q, tE Γ W (fCh sem sem' fa fb fc) σ H Q → tChain R R' (tE Γ W fa) (tE Γ W fb) (tE Γ W fc) σ H Q := by
  rintro σ H Q ⟨ω, S, h, sl, r, k⟩
  refine ⟨ω, S, h, sl, r, k.step fun ω1 d h1 H1 e1 r1 k1 x hx => ⟨ω1, S, h1, sl.ex e1, r1, k1.step fun ω2 z h2 H2 e2 r2 k2 y hy => ?_⟩⟩
  refine ho ω2 h2 H2 x y d z _ r2 (hx.ex e2) hy (OkR.pur (W := W) (σ := σ) (k2.step fun ω3 u h3 H3 e3 r3 k3 v hv => ?_))
  split at k3
  · obtain rfl := hv
    refine ⟨true, rfl, ?_⟩
    rw [if_pos rfl]
    exact ⟨ω3, S, h3, sl.ex ((e1.trans e2).trans e3), r3, k3.step fun ω4 c h4 H4 e4 r4 k4 w hw => ho' ω4 h4 H4 y w z c Q r4 (hy.ex (e3.trans e4)) hw k4.pur⟩
  · obtain rfl := hv
    refine ⟨false, rfl, ?_⟩
    rw [if_neg Bool.false_ne_true]
    exact k3.here r3 _ rfl
  · exact k3.elim
theorem de_ch {op op' : CmpOp} {sem sem' : S2} (ho : OpH X Γ (compareOp op) sem) (ho' : OpH X Γ (compareOp op') sem') (ha : DE X Γ W a fa) (hb : DE X Γ W b fb) (hc : DE X Γ W c fc)
    (hm : lastMarks [op, op'] [b, c] = false) : DE X Γ W (.Compare a [op, op'] [b, c] pos) (fCh sem sem' fa fb fc) := by
  obtain ⟨R, h1, h2⟩ := ho
  obtain ⟨R', h1', h2'⟩ := ho'
  exact Mi.PE.mono (pe_chain h1 h1' ha hb hc hm) (fCh_ok h2 h2')
theorem dt_ch {op op' : CmpOp} {sem sem' : S2} (ho : OpH X Γ (compareOp op) sem) (ho' : OpH X Γ (compareOp op') sem') (ha : DE X Γ W a fa) (hb : DE X Γ W b fb) (hc : DE X Γ W c fc)
    (hm : lastMarks [op, op'] [b, c] = false) : DT X Γ W (.Compare a [op, op'] [b, c] pos) (gB (fCh sem sem' fa fb fc)) := by
  obtain ⟨R, h1, h2⟩ := ho
  obtain ⟨R', h1', h2'⟩ := ho'
  exact Mi.PT.mono (pt_chain h1 h1' ha hb hc hm) fun σ H Q q => fCh_ok h2 h2' σ H _ (gB_ok σ H Q q)
end
end He
end

/-! The heap evaluator: argument lists, displays, calls of defs, methods, new instances, fields, properties. -/
noncomputable section
namespace He
open PySem L2
open PyProof.Rows hiding St
open Fu (RoomG FnG)
abbrev Af := Sls → Hs → Rs (List D)
def tA (Γ : Gm) (W : WX) (g : Af) : TA := fun σ H Q => ∃ ω S h, SlAt Γ ω S σ ∧ Rp Γ ω h H ∧ OkR Γ ω W σ (g S h) fun ω' ds _ H' => ∀ vs, Ats Γ ω' ds vs → Q vs H'
def DA (X : Cx) (Γ : Gm) (W : WX) (es : List Expr) (g : Af) : Prop := PA X es (tA Γ W g)
section
variable {X : Cx} {Γ : Gm} {W : WX} {e a b c : Expr} {es : List Expr} {fa fb fc f : Ef} {g : Af} {pos : Pos}
def aNil : Af := fun _ h => .ok [] h
def aCons (f : Ef) (g : Af) : Af := fun S h => (f S h).bind fun d h1 => (g S h1).bind fun ds h2 => .ok (d :: ds) h2
theorem da_nil : DA X Γ W [] aNil := Mi.PA.mono pa_nil fun σ H Q ⟨ω, S, h, sl, r, k⟩ => k.here r [] rfl
theorem da_cons (ha : DE X Γ W e fa) (hr : DA X Γ W es g) (hs : starEach (e :: es) X.env = (false, eval e X.env) :: starEach es X.env) : DA X Γ W (e :: es) (aCons fa g) := Mi.PA.mono (pa_cons ha hr hs) fun σ H Q ⟨ω, S, h, sl, r, k⟩ =>
  ⟨ω, S, h, sl, r, k.step fun ω1 d h1 H1 e1 r1 k1 x hx => ⟨ω1, S, h1, sl.ex e1, r1, k1.step fun ω2 ds h2 H2 e2 r2 k2 xs hxs => k2.here r2 (x :: xs) ⟨x, xs, rfl, hx.ex e2, hxs⟩⟩⟩
/-- *e -/
def seqOf (h : Hs) : D → Option (List D)
  | .tup l => some l
  | .loc k => match h.get k with
    | some (.lst l) => some l
    | _ => none
  | _ => none
def aStar (f : Ef) (g : Af) : Af := fun S h => (f S h).bind fun d h1 => (lift h1 (seqOf h1 d)).bind fun l h1 => (g S h1).bind fun ds h2 => .ok (l ++ ds) h2
theorem seqOf_at {ω : Wd} {h : Hs} {H : Hp} {d : D} {l : List D} {x : V} (r : Rp Γ ω h H) (q : At Γ ω d x) (e : seqOf h d = some l) : ∃ p xs, x = .ref p ∧ (SqT X.K H p xs ∨ SqL X.K H p xs) ∧ Ats Γ ω l xs := by
  cases d with
  | tup l' =>
    cases e
    obtain ⟨p, xs, rfl, hp, hs⟩ := q
    exact ⟨p, xs, rfl, .inl (SqT.of (r.sub _ _ hp)), hs⟩
  | loc n =>
    obtain ⟨hn, rfl⟩ := q
    dsimp only [seqOf] at e
    split at e
    · rename_i l' hl
      cases e
      obtain ⟨xs, ha, hs⟩ := r.at_ hn hl
      exact ⟨_, xs, rfl, .inr (SqL.of ha), hs⟩
    · cases e
  | _ => cases e
theorem da_star {p : Pos} (ha : DE X Γ W e fa) (hr : DA X Γ W es g) : DA X Γ W (.Starred e p :: es) (aStar fa g) := Mi.PA.mono (StX.pa_star ha hr) fun σ H Q ⟨ω, S, h, sl, r, k⟩ =>
  ⟨ω, S, h, sl, r, k.step fun ω1 d h1 H1 e1 r1 k1 x hx => by
    cases hl : seqOf h1 d with
    | none => rw [hl] at k1; exact k1.elim
    | some l =>
      rw [hl] at k1
      obtain ⟨p, xs, rfl, hp, hs⟩ := seqOf_at (X := X) r1 hx hl
      exact ⟨p, xs, rfl, hp, ω1, S, h1, sl.ex e1, r1, OkR.step k1 fun ω2 ds h2 H2 e2 r2 k2 ys hys => k2.here r2 _ ((hs.ex e2).append hys)⟩⟩
/-! ### displays -/
def fL (g : Af) : Ef := fun S h => (g S h).bind fun l h1 => if l.length ≤ 100000 ∧ h1.nx < 1000000000 then .ok (.loc h1.nx) (h1.push (.lst l)) else .no
def fTu (g : Af) : Ef := fun S h => (g S h).bind fun l h1 => if l.length ≤ 100000 then .ok (.tup l) h1 else .no
theorem de_lst (hg : DA X Γ W es g) : DE X Γ W (.List es pos) (fL g) := Mi.PE.mono (pe_lst hg) fun σ H Q ⟨ω, S, h, sl, r, k⟩ => ⟨ω, S, h, sl, r, k.step fun ω1 l h1 H1 e1 r1 k1 vs hs => by
  split at k1
  · rename_i hl
    refine ⟨by rw [hs.len]; exact Evl.sz_of hl.1, fun p hp => ?_⟩
    have x1 := Wd.push_ext ω1 p
    exact (k1.there x1 (r1.newC hp hl.2 (same_new hp) ⟨_, upd_same, hs.ex x1⟩)) _ (new_loc r1 p)
  · exact k1.elim⟩
theorem de_tup {x1} (hg : DA X Γ W es g) : DE X Γ W (.Tuple es x1 pos) (fTu g) := Mi.PE.mono (pe_tup hg) fun σ H Q ⟨ω, S, h, sl, r, k⟩ => ⟨ω, S, h, sl, r, k.step fun ω1 l h1 H1 e1 r1 k1 vs hs => by
  split at k1
  · rename_i hl
    refine ⟨by rw [hs.len]; exact Evl.sz_of hl, fun p hp => ?_⟩
    obtain ⟨r2, x2⟩ := r1.newM (o := .tup vs) hp
    exact (k1.there x2 r2) _ ⟨p, vs, rfl, upd_same, hs.ex x2⟩
  · exact k1.elim⟩

/-! ### calls -/
abbrev Gf := List D → Hs → Rs D
def spH (Γ : Gm) (G : Gf) : Sp := fun vs H Q E => ∃ ω h ds, Rp Γ ω h H ∧ Ats Γ ω ds vs ∧ OkR Γ ω (fun c d _ H' => E c d H') [] (G ds h) fun ω' d _ H' => ∀ v, At Γ ω' d v → Q v H'
/-- a def that is called where no repr is under way runs -/
theorem run_fnG {CX : CXT} {k : Nat} {f : Addr} {fd : FuncData} {ps : List Str} {sp : Sp} {E : XK} {dvs : List V} {ds : List Value} {pins : List (Addr × Obj)} {σ : St} {H : Hp} {s : Shared} {Q : VK} {us : List Value} {vs : List V} (F : FnG X.prog X.w X.K X.mg X.base CX k f fd ps sp) (hr : RoomG k X.A) (hb : Binds X.K fd ps ds) (hd : Vals dvs ds) (hx : PassesAt CX X σ E)
    (I : Inv X pins σ H s) (r : Vals vs us) (h : sp (vs ++ dvs) H Q E) : wpAny (model X.prog X.w) X.A (call (.ref f) us) (EP X pins σ Q) X.xe s := by
  have r2 : Vals (vs ++ dvs) (us ++ ds) := r.append hd
  have hl : (us ++ ds).length = ps.length := by rw [← r2.length]; exact F.len _ _ _ _ h
  refine wpAny_call (codeAny_mono (F.run X.A X.stack s H ⟨us, []⟩ (us ++ ds) (vs ++ dvs) Q E hr I.env0 (hb s us I.kIn hl) r2 h) fun r s' hq => ?_)
  cases r with
  | error e => exact hx pins H s e s' I hq
  | ok fl =>
    cases fl with
    | ret u => exact I.after hq
    | next => exact False.elim hq
    | brk => exact False.elim hq
    | cont => exact False.elim hq
theorem RoomG.make {k : Nat} {A : Around} (h : RoomG (k + 1) A) (C : Addr) (us : List Value) : ∀ B, Room k B → B.guards = A.guards → RoomG k B := fun B r g => ⟨r, g.trans h.g⟩
theorem run_makeG {CX : CXT} {k : Nat} {f C : Addr} {fd : FuncData} {ps : List Str} {sp : Sp} {E : XK} {dvs : List V} {ds : List Value} {pins : List (Addr × Obj)} {σ : St} {H : Hp} {s : Shared} {Q : VK} {us : List Value} {vs : List V} (M : Mk X.K C f) (F : FnG X.prog X.w X.K X.mg X.base CX k f fd ps sp) (hr : RoomG (k + 1) X.A) (hb : Binds X.K fd ps ds) (hd : Vals dvs ds)
    (hx : PassesAt CX X σ E) (I : Inv X pins σ H s) (r : Vals vs us)
    (h : ∀ x dx, H x = none → H dx = none → dx ≠ x → sp (.ref x :: (vs ++ dvs)) (upd (upd H dx (.own x)) x (.ins C dx [])) (fun v H2 => v = .non ∧ Q (.ref x) H2) E) :
    wpAny (model X.prog X.w) X.A (call (.ref C) us) (EP X pins σ Q) X.xe s := by
  have hq := h (s.heap.objs.size + 1) s.heap.objs.size (I.hok.fresh (Nat.le_succ _)) (I.hok.fresh (Nat.le_refl _)) (Nat.ne_of_lt (Nat.lt_succ_self _))
  have I2 := Inv.made (C := C) I
  have r2 : Vals (V.ref (s.heap.objs.size + 1) :: (vs ++ dvs)) (Value.ref (s.heap.objs.size + 1) :: (us ++ ds)) := .cons rfl (r.append hd)
  have hl : (Value.ref (s.heap.objs.size + 1) :: us ++ ds).length = ps.length := by
    have e := r2.length
    rw [F.len _ _ _ _ hq] at e
    exact e.symm
  refine wpAny_call (make_map (f := f) I.kIn M.makes M.init (beq_iff_eq.mp M.fn) (codeAny_mono (F.run _ X.stack _ _ ⟨Value.ref (s.heap.objs.size + 1) :: us, []⟩ (Value.ref (s.heap.objs.size + 1) :: (us ++ ds)) _ _ E ⟨hr.r.make C us [], hr.g⟩
    (I2.env0.make C us []) (hb _ (Value.ref (s.heap.objs.size + 1) :: us) I2.kIn hl) r2 hq) fun r s' hq' => ?_))
  cases r with
  | error e => exact hx pins _ _ e s' I2 hq'
  | ok fl =>
    cases fl with
    | ret u =>
      obtain ⟨v, H', I3, rv, ev, q3⟩ := I2.after hq'
      subst ev
      exact ⟨rv, ⟨V.ref (s.heap.objs.size + 1), H', I3, rfl, q3⟩⟩
    | next => exact False.elim hq'
    | brk => exact False.elim hq'
    | cont => exact False.elim hq'
theorem getpropG {k : Nat} {p g' a : Addr} {C dx : Addr} {fs : List (Str × V)} {f : Str} {fd : FuncData} {ps : List Str} {sp : Sp} {pins : List (Addr × Obj)} {σ : St} {H : Hp} {s : Shared} {Q : VK} {b : Bool} {E' : Value → Shared → Prop} (I : Inv X pins σ H s) (ea : H a = some (.ins C dx fs)) (c : Cls X.K C) (hp : PropOf X.K C f p g')
    (F : FnG X.prog X.w X.K X.mg X.base (L2.CX X.prog X.w) k g' fd ps sp) (hr : RoomG (k + 1) X.A) (hb : Binds X.K fd ps []) (h : sp [.ref a] H Q fun _ _ _ => False) :
    wpAny (model X.prog X.w) X.A (getAttr (.ref a) f b) (EP X pins σ Q) E' s := by
  obtain ⟨mA, O, _, _, _, _⟩ := ins_get I.hok ea
  obtain ⟨od, J, _⟩ := O.look
  obtain ⟨rest, hrec⟩ := hp.rec_
  have I1 := I.tok (s.toks + 1)
  have hl : ([Value.ref a] ++ []).length = ps.length := by
    rw [← F.len _ _ _ _ h]
    rfl
  have hc : (PySem.W.clsIn X.K C).isSome = true := by
    obtain ⟨cd, hc, _⟩ := PySem.W.any_some c.hd
    rw [hc]
    rfl
  refine PySem.W.get_bind I.kIn J (PySem.W.plainGet_of (c.get f)).1 (PySem.W.findObj_data hc hp.at_ hp.get hp.tak) (PySem.W.plainGet_of (c.get f)).2 (wpAny_call (PySem.W.prop_get (s := { s with toks := s.toks + 1 }) I.kIn hrec ?_))
  refine codeAny_mono (F.run X.A.in1 X.stack { s with toks := s.toks + 1 } H ⟨[.ref a], []⟩ [.ref a] [.ref a] Q (fun _ _ _ => False) ⟨hr.r.in1, hr.g⟩ I1.env0.in1 (hb _ [.ref a] I1.kIn hl) (.cons rfl .nil) h) fun r s' hq => ?_
  cases r with
  | error er =>
    obtain ⟨_, _, _, _, _, _, _, _, _, _, _, _, z⟩ := hq
    exact z.elim
  | ok fl =>
    cases fl with
    | ret u =>
      obtain ⟨v, H', I3, rv, q3⟩ := I1.after hq
      show wpAny _ _ (handedOut u) _ _ _
      rw [PySem.W.handedOut_of (handed_of rv)]
      exact wpAny_pure ⟨v, H', I3, rv, q3⟩
    | next => exact False.elim hq
    | brk => exact False.elim hq
    | cont => exact False.elim hq

/-- a def with its evaluator, at level k -/
structure FnH (X : Cx) (Γ : Gm) (k : Nat) (f : Addr) (ps : List Str) (G : Gf) : Prop where
  ex : ∃ fd : FuncData, FnG X.prog X.w X.K X.mg X.base (L2.CX X.prog X.w) k f fd ps (spH Γ G) ∧ Binds X.K fd ps []
variable {p apos : Pos} {x m : Str} {k : Nat} {ps : List Str} {G : Gf} {fA : Addr}
def fCall (G : Gf) (g : Af) : Ef := fun S h => (g S h).bind fun ds h1 => G ds h1
theorem OkR.toSp {ω : Wd} {h : Hs} {H : Hp} {σ : St} {ds : List D} {vs : List V} {Q : VK} (r : Rp Γ ω h H) (hs : Ats Γ ω ds vs) (q : OkR Γ ω W σ (G ds h) fun ω' d _ H' => ∀ v, At Γ ω' d v → Q v H') : spH Γ G vs H Q (WE W σ) := by
  refine ⟨ω, h, ds, r, hs, ?_⟩
  generalize G ds h = z at q
  induction z with
  | ok d h' => exact q
  | er c d h' => exact q
  | no => exact q
  | all n f ih => exact fun i hi => ih i (q i hi)
theorem de_call (D1 : FnH X Γ k fA ps G) (hr : RoomG k X.A) (tk : Takes X W) (hm : X.mg x = some (.ref fA)) (hk : PySem.W.keepIn X.K (.ref fA) = true) (hg : Gl X x) (hdb : (x == ("__debug__" : Str)) = false) (ha : DA X Γ W (e :: es) g)
    (he : starEach (e :: es) X.env = (false, eval e X.env) :: starEach es X.env) (hpl : (backTo pos (starEach es X.env)).any (·.1) = false) : DE X Γ W (.Call (.Name x p) (e :: es) [] pos) (fCall G g) := by
  obtain ⟨fd, F1, hb⟩ := D1.ex
  refine ⟨fun pins s σ H Q I ⟨ω, S, h, sl, r, q⟩ => ?_⟩
  refine wpAny_Call_Name_kw (ld_glob I hg hm ?_ hdb)
  refine PySem.W.callWith_K (h₀ := X.base) I.ok.mod.kin hk (thn (ha.run pos pins s σ H (fun vs H1 => spH Γ G vs H1 Q (WE W σ)) I ⟨ω, S, h, sl, r, q.step fun ω1 ds h1 H1 e1 r1 k1 vs hs => k1.toSp r1 hs⟩) fun us s1 ⟨vs, H1, I1, rv, q1⟩ => ⟨I1.kIn, ?_⟩) he hpl
  exact run_fnG (dvs := []) F1 hr hb .nil (passAt tk σ) I1 rv (by rw [List.append_nil]; exact q1)
theorem de_call0 (D1 : FnH X Γ k fA ps G) (hr : RoomG k X.A) (tk : Takes X W) (hm : X.mg x = some (.ref fA)) (hk : PySem.W.keepIn X.K (.ref fA) = true) (hg : Gl X x) (hdb : (x == ("__debug__" : Str)) = false) : DE X Γ W (.Call (.Name x p) [] [] pos) (fCall G aNil) := by
  obtain ⟨fd, F1, hb⟩ := D1.ex
  refine ⟨fun pins s σ H Q I ⟨ω, S, h, sl, r, q⟩ => ?_⟩
  refine wpAny_Call_Name_kw (ld_glob I hg hm ?_ hdb)
  exact PySem.W.callWith_K0 I.kIn hk (run_fnG (dvs := []) (us := []) (vs := []) F1 hr hb .nil (passAt tk σ) I .nil (OkR.toSp (ds := []) (vs := []) r rfl q))

/-! ### methods -/
structure ClsF (Γ : Gm) (K : PySem.W.Frag) (c : Nat) : Prop where
  cl : Cls K (Γ.ct.cls c)
  na : ∀ f ∈ Γ.ct.fld c, NoAttr K (Γ.ct.cls c) f
  nd : (Γ.ct.fld c).Nodup
  le : (Γ.ct.fld c).length < 1000
/-- d is a place of an instance of the class number c -/
def insOf (h : Hs) : D → Option (Nat × List D)
  | .loc n => match h.get n with
    | some (.ins c l) => some (c, l)
    | _ => none
  | _ => none
theorem insOf_at {ω : Wd} {h : Hs} {H : Hp} {d : D} {c : Nat} {l : List D} {v : V} (r : Rp Γ ω h H) (q : At Γ ω d v) (e : insOf h d = some (c, l)) : ∃ a dx fs, v = .ref a ∧ H a = some (.ins (Γ.ct.cls c) dx fs) ∧ fs.map (·.1) = (Γ.ct.fld c).take l.length ∧ Ats Γ ω l (fs.map (·.2)) := by
  cases d with
  | loc n =>
    obtain ⟨hn, rfl⟩ := q
    dsimp only [insOf] at e
    split at e
    · rename_i c' l' hc
      cases e
      obtain ⟨dx, fs, ha, hk, hs⟩ := r.at_ hn hc
      exact ⟨_, dx, fs, rfl, ha, hk, hs⟩
    · cases e
  | _ => cases e
/-- a method m of the class number c -/
structure MethH (X : Cx) (Γ : Gm) (c : Nat) (k : Nat) (m : Str) (ps : List Str) (G : Gf) : Prop where
  ex : ∃ f : Addr, FnH X Γ k f ps G ∧ Meth X.K (Γ.ct.cls c) m f
  cf : ClsF Γ X.K c
  nf : m ∉ Γ.ct.fld c
def fMeth (c : Nat) (G : Gf) (fo : Ef) (g : Af) : Ef := fun S h => (fo S h).bind fun o h1 => match insOf h1 o with
  | some (c', _) => if c' = c then (g S h1).bind fun ds h2 => G (o :: ds) h2 else .no
  | none => .no
variable {o : Expr} {fo : Ef} {cc : Nat}
theorem lookup_noF {cc n : Nat} {m : Str} {fs : List (Str × V)} (nf : m ∉ Γ.ct.fld cc) (hk : fs.map (·.1) = (Γ.ct.fld cc).take n) : fs.lookup m = none := Mi.lookup_none (by rw [hk]; exact fun z => nf (List.mem_of_mem_take z))
theorem de_meth {pl : Sem Bool} (D1 : MethH X Γ cc k m ps G) (hr : RoomG k X.A) (tk : Takes X W) (ho : DE X Γ W o fo) (ha : DA X Γ W (e :: es) g)
    (hst : starEach (e :: es) X.env = (false, eval e X.env) :: starEach es X.env) (hpl : (backTo pos (starEach es X.env)).any (·.1) = false)
    (ht : eval (.Call (.Attribute o m apos) (e :: es) [] pos) X.env = (do
      let ov ← eval o X.env
      standAt apos.atName
      let (f, first) ← holding [ov] (getMethod ov m pl)
      callWith pos f first (backTo pos (starEach (e :: es) X.env)) (backToKw pos (keywordEach [] X.env)))) : DE X Γ W (.Call (.Attribute o m apos) (e :: es) [] pos) (fMeth cc G fo g) := by
  obtain ⟨f, ⟨fd, F1, hb⟩, hm⟩ := D1.ex
  refine ⟨fun pins s σ H Q I ⟨ω, S, h, sl, r, q⟩ => ?_⟩
  refine PySem.W.methodCall_KW (pl := pl) (thn (ho.run pins s σ H (fun x H1 => ∃ a dx fs, x = .ref a ∧ H1 a = some (.ins (Γ.ct.cls cc) dx fs) ∧ fs.lookup m = none ∧ tA Γ W g σ H1 fun vs H2 => spH Γ G (x :: vs) H2 Q (WE W σ)) I ⟨ω, S, h, sl, r, q.step fun ω1 d h1 H1 e1 r1 k1 x hx => ?_⟩) fun u s1 ⟨x, H1, I1, rx, a, dx, fs, ex, ea, l, q1⟩ => ?_) ht
  · split at k1
    · rename_i c' l hi
      split at k1
      · rename_i hc
        subst hc
        obtain ⟨a, dx, fs, rfl, ha', hk, hs⟩ := insOf_at r1 hx hi
        refine ⟨a, dx, fs, rfl, ha', lookup_noF D1.nf hk, ω1, S, h1, sl.ex e1, r1, k1.step fun ω2 ds h2 H2 e2 r2 k2 vs hvs => ?_⟩
        exact OkR.toSp (W := W) (ds := d :: ds) r2 ⟨_, vs, rfl, hx.ex e2, hvs⟩ k2
      · exact k1.elim
    · exact k1.elim
  · subst ex
    obtain rfl : u = Value.ref a := rx
    refine getmeth_ok I1 ea D1.cf.cl hm l ?_
    refine PySem.W.callWith_K (first := [.ref a]) (h₀ := X.base) I.ok.mod.kin hm.kp (thn (ha.run pos pins s1 σ H1 _ I1 q1) fun us s2 ⟨vs, H2, I2, rv, q2⟩ => ⟨I2.kIn, ?_⟩) hst hpl
    exact run_fnG (dvs := []) (us := .ref a :: us) (vs := .ref a :: vs) F1 hr hb .nil (passAt tk σ) I2 (.cons rfl rv) (by rw [List.append_nil]; exact q2)
theorem de_meth0 {pl : Sem Bool} (D1 : MethH X Γ cc k m ps G) (hr : RoomG k X.A) (tk : Takes X W) (ho : DE X Γ W o fo)
    (ht : eval (.Call (.Attribute o m apos) [] [] pos) X.env = (do
      let ov ← eval o X.env
      standAt apos.atName
      let (f, first) ← holding [ov] (getMethod ov m pl)
      callWith pos f first (backTo pos (starEach [] X.env)) (backToKw pos (keywordEach [] X.env)))) : DE X Γ W (.Call (.Attribute o m apos) [] [] pos) (fMeth cc G fo aNil) := by
  obtain ⟨f, ⟨fd, F1, hb⟩, hm⟩ := D1.ex
  refine ⟨fun pins s σ H Q I ⟨ω, S, h, sl, r, q⟩ => ?_⟩
  refine PySem.W.methodCall_KW (pl := pl) (thn (ho.run pins s σ H (fun x H1 => ∃ a dx fs, x = .ref a ∧ H1 a = some (.ins (Γ.ct.cls cc) dx fs) ∧ fs.lookup m = none ∧ spH Γ G [x] H1 Q (WE W σ)) I ⟨ω, S, h, sl, r, q.step fun ω1 d h1 H1 e1 r1 k1 x hx => ?_⟩) fun u s1 ⟨x, H1, I1, rx, a, dx, fs, ex, ea, l, q1⟩ => ?_) ht
  · split at k1
    · rename_i c' l hi
      split at k1
      · rename_i hc
        subst hc
        obtain ⟨a, dx, fs, rfl, ha', hk, hs⟩ := insOf_at r1 hx hi
        exact ⟨a, dx, fs, rfl, ha', lookup_noF D1.nf hk, OkR.toSp (W := W) (ds := [d]) r1 ⟨_, [], rfl, hx, rfl⟩ k1⟩
      · exact k1.elim
    · exact k1.elim
  · subst ex
    obtain rfl : u = Value.ref a := rx
    refine getmeth_ok I1 ea D1.cf.cl hm l ?_
    exact PySem.W.callWith_K0 (first := [.ref a]) I1.kIn hm.kp (run_fnG (dvs := []) (us := [.ref a]) (vs := [.ref a]) F1 hr hb .nil (passAt tk σ) I1 (.cons rfl .nil) (by rw [List.append_nil]; exact q1))
/-! ### fields and properties -/
def fFld (c j : Nat) (fo : Ef) : Ef := fun S h => (fo S h).bind fun o h1 => match insOf h1 o with
  | some (c', l) => if c' = c then lift h1 l[j]? else .no
  | none => .no
theorem field_at {j n : Nat} {f : Str} {fs : List (Str × V)} {v : V} (C : ClsF Γ X.K cc) (hf : (Γ.ct.fld cc)[j]? = some f) (hk : fs.map (·.1) = (Γ.ct.fld cc).take n) (hv : (fs.map (·.2))[j]? = some v) : fs.lookup f = some v := by
  have hj : j < fs.length := by have := (List.getElem?_eq_some_iff.mp hv).1; rw [List.length_map] at this; exact this
  have e1 : (fs.map (·.1))[j]? = some f := by
    rw [hk, List.getElem?_take]
    have : j < n := by
      have h2 : fs.length = ((Γ.ct.fld cc).take n).length := by rw [← hk, List.length_map]
      rw [List.length_take] at h2
      omega
    rw [if_pos this]
    exact hf
  exact Mi.lookup_at rfl (by rw [hk]; exact C.nd.sublist (List.take_sublist _ _)) e1 hv
theorem de_fld {j : Nat} {f : Str} (C : ClsF Γ X.K cc) (hf : (Γ.ct.fld cc)[j]? = some f) (ho : DE X Γ W o fo) (hb : attributeBase o f X.env (eval o X.env) = eval o X.env) : DE X Γ W (.Attribute o f pos) (fFld cc j fo) :=
  Mi.PE.mono (pe_fld ho hb) fun σ H Q ⟨ω, S, h, sl, r, k⟩ => ⟨ω, S, h, sl, r, k.step fun ω1 d h1 H1 e1 r1 k1 x hx => by
    split at k1
    · rename_i c' l hi
      split at k1
      · rename_i hc
        subst hc
        obtain ⟨z, hz, k2⟩ := k1.lift
        obtain ⟨a, dx, fs, rfl, ha', hk, hs⟩ := insOf_at r1 hx hi
        obtain ⟨y, hy, hat⟩ := hs.get hz
        exact ⟨a, _, dx, fs, y, rfl, ha', C.cl, C.na f (List.mem_of_getElem? hf), field_at (X := X) C hf hk hy, k2.here r1 y hat⟩
      · exact k1.elim
    · exact k1.elim⟩
/-- a property -/
structure PropH (X : Cx) (Γ : Gm) (c : Nat) (k : Nat) (m : Str) (G : Gf) : Prop where
  ex : ∃ p f : Addr, FnH X Γ k f ["self"] G ∧ PropOf X.K (Γ.ct.cls c) m p f
  cf : ClsF Γ X.K c
def fProp (c : Nat) (G : Gf) (fo : Ef) : Ef := fun S h => (fo S h).bind fun o h1 => match insOf h1 o with
  | some (c', _) => if c' = c then pur (G [o] h1) else .no
  | none => .no
theorem de_prop (D1 : PropH X Γ cc k m G) (hr : RoomG (k + 1) X.A) (ho : DE X Γ W o fo) (hab : attributeBase o m X.env (eval o X.env) = eval o X.env) : DE X Γ W (.Attribute o m pos) (fProp cc G fo) := by
  obtain ⟨pp, f, ⟨fd, F1, hb⟩, hp⟩ := D1.ex
  refine ⟨fun pins s σ H Q I ⟨ω, S, h, sl, r, q⟩ => ?_⟩
  refine attr_of hab (thn (ho.run pins s σ H (fun x H1 => ∃ a dx fs, x = .ref a ∧ H1 a = some (.ins (Γ.ct.cls cc) dx fs) ∧ spH Γ G [x] H1 Q fun _ _ _ => False) I ⟨ω, S, h, sl, r, q.step fun ω1 d h1 H1 e1 r1 k1 x hx => ?_⟩) fun u s1 ⟨x, H1, I1, rx, a, dx, fs, ex, ea, q1⟩ => ?_)
  · split at k1
    · rename_i c' l hi
      split at k1
      · rename_i hc
        subst hc
        obtain ⟨a, dx, fs, rfl, ha', hk, hs⟩ := insOf_at r1 hx hi
        exact ⟨a, dx, fs, rfl, ha', ω1, h1, [d], r1, ⟨_, [], rfl, hx, rfl⟩, k1.pur⟩
      · exact k1.elim
    · exact k1.elim
  · subst ex
    obtain rfl : u = Value.ref a := rx
    exact getpropG I1 ea D1.cf.cl hp F1 hr hb q1
/-! ### C(e, ..) -/
structure MakeH (X : Cx) (Γ : Gm) (c : Nat) (k : Nat) (x : Str) (ps : List Str) (G : Gf) : Prop where
  ex : ∃ f : Addr, FnH X Γ k f ps G ∧ Mk X.K (Γ.ct.cls c) f ∧ X.mg x = some (.ref (Γ.ct.cls c))
def fMake (c : Nat) (G : Gf) (g : Af) : Ef := fun S h => (g S h).bind fun ds h1 => if h1.nx < 1000000000 then (G (.loc h1.nx :: ds) (h1.push (.ins c []))).bind fun z h2 => match z with
  | .non => .ok (.loc h1.nx) h2
  | _ => .no else .no
theorem de_make (D1 : MakeH X Γ cc k x ps G) (hr : RoomG (k + 1) X.A) (tk : Takes X W) (hg : Gl X x) (hdb : (x == ("__debug__" : Str)) = false) (ha : DA X Γ W (e :: es) g)
    (he : starEach (e :: es) X.env = (false, eval e X.env) :: starEach es X.env) (hpl : (backTo pos (starEach es X.env)).any (·.1) = false) : DE X Γ W (.Call (.Name x p) (e :: es) [] pos) (fMake cc G g) := by
  obtain ⟨f, ⟨fd, F1, hb⟩, mk, hm⟩ := D1.ex
  refine ⟨fun pins s σ H Q I ⟨ω, S, h, sl, r, q⟩ => ?_⟩
  refine wpAny_Call_Name_kw (ld_glob I hg hm ?_ hdb)
  refine PySem.W.callWith_K (h₀ := X.base) I.ok.mod.kin mk.kp (thn (ha.run pos pins s σ H (fun vs H1 => ∀ x dx, H1 x = none → H1 dx = none → dx ≠ x → spH Γ G (.ref x :: vs) (upd (upd H1 dx (.own x)) x (.ins (Γ.ct.cls cc) dx [])) (fun v H2 => v = .non ∧ Q (.ref x) H2) (WE W σ)) I ⟨ω, S, h, sl, r, q.step fun ω1 ds h1 H1 e1 r1 k1 vs hs xa dx nx nd ne => ?_⟩) fun us s1 ⟨vs, H1, I1, rv, q1⟩ => ⟨I1.kIn, ?_⟩) he hpl
  · split at k1
    · rename_i hl
      have sH : Same H1 (upd (upd H1 dx (.own xa)) xa (.ins (Γ.ct.cls cc) dx [])) := fun b u e => by
        rw [upd_ne (ne_of_none e nx), upd_ne (ne_of_none e nd)]
        exact e
      have x1 := Wd.push_ext ω1 xa
      have r2 := r1.newC (c := .ins cc []) nx hl sH ⟨dx, [], upd_same, rfl, rfl⟩
      refine OkR.toSp (W := W) (σ := σ) (ds := .loc h1.nx :: ds) r2 ⟨_, vs, rfl, new_loc r1 xa, hs.ex x1⟩ (OkR.step (k1.ex x1) fun ω2 z h2 H2 e2 r3 k2 v hv => ?_)
      split at k2
      · exact ⟨hv, k2.here r3 _ ((new_loc r1 xa).ex e2)⟩
      · exact k2.elim
    · exact k1.elim
  · exact run_makeG (dvs := []) mk F1 hr hb .nil (passAt tk σ) I1 rv (by simpa only [List.append_nil] using q1)
end
end He
end

/-! The heap evaluator: statements. -/
noncomputable section
namespace He
open PySem L2
open PyProof.Rows hiding St
open Fu (RoomG FnG)
inductive Fl where
  | nx (S : Sls) | rt (d : D) | bk (S : Sls) | ct (S : Sls) | xr (c : Nat) (d : Option D) (S : Sls)
abbrev Sf := Sls → Hs → Rs Fl
def fEnds (Γ : Gm) (W : WX) (E : Ends) : Wd → Fl → Hs → Hp → Prop := fun ω fl _ H => match fl with
  | .nx S => ∀ σ, SlAt Γ ω S σ → E.nx σ H
  | .rt d => ∀ v, At Γ ω d v → E.rt v H
  | .bk S => ∀ σ, SlAt Γ ω S σ → E.bk σ H
  | .ct S => ∀ σ, SlAt Γ ω S σ → E.ct σ H
  | .xr c d S => ∀ x σ, SlAt Γ ω S σ → ErrAt Γ ω c d x H → W (.ref (Γ.ct.err c)) x σ H
def tSt (Γ : Gm) (W : WX) (g : Sf) : TS := fun E σ H => ∃ ω S h, SlAt Γ ω S σ ∧ Rp Γ ω h H ∧ OkR Γ ω WN [] (g S h) (fEnds Γ W E)
def DS (X : Cx) (Γ : Gm) (W : WX) (st : Stmt) (g : Sf) : Prop := PS X st (tSt Γ W g)
def DSs (X : Cx) (Γ : Gm) (W : WX) (st : List Stmt) (g : Sf) : Prop := PSs X st (tSt Γ W g)
/-- an expression's answer within a statement: what is raised keeps the slots -/
def Rs.st {α : Type} (r : Rs α) (S : Sls) (k : α → Hs → Rs Fl) : Rs Fl := Rs.rec (motive := fun _ => Rs Fl) (fun a h => k a h) (fun c d h => .ok (.xr c d S) h) .no (fun n _ ih => .all n ih) r
section
variable {X : Cx} {Γ : Gm} {W : WX} {e a b c tg o : Expr} {s0 : Stmt} {rest body ss ss' : List Stmt} {f fa fb : Ef} {g g' gb : Sf} {t : Tf} {pos pos' : Pos}
theorem OkR.st {α : Type} {ω : Wd} {S : Sls} {σ : St} {r : Rs α} {k : α → Hs → Rs Fl} {E : Ends} (q : OkR Γ ω WN [] (r.st S k) (fEnds Γ W E)) (sl : SlAt Γ ω S σ) : OkR Γ ω W σ r fun ω' a h' _ => OkR Γ ω' WN [] (k a h') (fEnds Γ W E) := by
  induction r with
  | ok a h => exact fun ω1 H1 e1 r1 => OkR.ex q e1
  | er c d h => exact fun ω1 x H1 e1 r1 z => q ω1 H1 e1 r1 x σ (sl.ex e1) z
  | no => exact q
  | all n f ih => exact fun i hi => ih i (q i hi)
def sNil : Sf := fun S h => .ok (.nx S) h
def sSeq (g g' : Sf) : Sf := fun S h => (g S h).bind fun fl h1 => match fl with
  | .nx S1 => g' S1 h1
  | fl => .ok fl h1
theorem dss_nil : DSs X Γ W [] sNil := Mi.PSs.mono pss_nil fun E σ H ⟨ω, S, h, sl, r, k⟩ => k.here r σ sl
theorem dss_cons (h1 : DS X Γ W s0 g) (h2 : DSs X Γ W rest g') : DSs X Γ W (s0 :: rest) (sSeq g g') := Mi.PSs.mono (pss_cons h1 h2) fun E σ H ⟨ω, S, h, sl, r, k⟩ => ⟨ω, S, h, sl, r, k.step fun ω1 fl h1 H1 e1 r1 k1 => by
  cases fl with
  | nx S1 => exact fun σ1 sl1 => ⟨ω1, S1, h1, sl1, r1, k1⟩
  | rt d => exact k1.here r1
  | bk S1 => exact k1.here r1
  | ct S1 => exact k1.here r1
  | xr c d S1 => exact k1.here r1⟩
theorem dss_one (h1 : DS X Γ W s0 g) : DSs X Γ W [s0] g := pss_one h1
theorem ds_pass : DS X Γ W (.Pass pos) sNil := Mi.PS.mono ps_pass fun E σ H ⟨ω, S, h, sl, r, k⟩ => k.here r σ sl
def sBrk : Sf := fun S h => .ok (.bk S) h
def sCnt : Sf := fun S h => .ok (.ct S) h
theorem ds_break : DS X Γ W (.Break pos) sBrk := Mi.PS.mono ps_break fun E σ H ⟨ω, S, h, sl, r, k⟩ => k.here r σ sl
theorem ds_continue : DS X Γ W (.Continue pos) sCnt := Mi.PS.mono ps_continue fun E σ H ⟨ω, S, h, sl, r, k⟩ => k.here r σ sl
def sExp (f : Ef) : Sf := fun S h => (f S h).st S fun _ h1 => .ok (.nx S) h1
theorem ds_expr (he : DE X Γ W e f) (hs : swapsWith e none pos.line X.env = pure false) : DS X Γ W (.Expr e pos) (sExp f) := Mi.PS.mono (ps_expr he hs) fun E σ H ⟨ω, S, h, sl, r, k⟩ => ⟨ω, S, h, sl, r, (k.st sl).mono fun ω1 d h1 H1 e1 r1 k1 v hv => k1.here r1 σ (sl.ex e1)⟩
def sIf (t : Tf) (g g' : Sf) : Sf := fun S h => (t S h).st S fun b h1 => match b with
  | true => g S h1
  | false => g' S h1
theorem ds_if (hc : DT X Γ W c t) (h1 : DSs X Γ W ss g) (h2 : DSs X Γ W ss' g') : DS X Γ W (.If c ss ss' pos) (sIf t g g') := Mi.PS.mono (ps_if hc h1 h2) fun E σ H ⟨ω, S, h, sl, r, k⟩ => ⟨ω, S, h, sl, r, (k.st sl).mono fun ω1 b h1 H1 e1 r1 k1 => by
  cases b with
  | true => rw [if_pos rfl]; exact ⟨ω1, S, h1, sl.ex e1, r1, k1⟩
  | false => rw [if_neg Bool.false_ne_true]; exact ⟨ω1, S, h1, sl.ex e1, r1, k1⟩⟩
def sRet (f : Ef) : Sf := fun S h => (f S h).st S fun d h1 => .ok (.rt d) h1
theorem ds_ret (he : DE X Γ W e f) : DS X Γ W (.Return (some e) pos) (sRet f) := Mi.PS.mono (ps_ret he) fun E σ H ⟨ω, S, h, sl, r, k⟩ => ⟨ω, S, h, sl, r, (k.st sl).mono fun ω1 d h1 H1 e1 r1 k1 v hv => k1.here r1 v hv⟩
def sRetN : Sf := fun S h => .ok (.rt .non) h
theorem ds_retN : DS X Γ W (.Return none pos) sRetN := Mi.PS.mono ps_retN fun E σ H ⟨ω, S, h, sl, r, k⟩ => k.here r .non rfl
/-! ### x = e -/
def sSet (i : Nat) (f : Ef) : Sf := fun S h => (f S h).st S fun d h1 => .ok (.nx (S.set i (some d))) h1
theorem ds_set {i : Nat} {x : Str} {px : Pos} (hN : X.N.Nodup) (hi : X.N[i]? = some x) (hx : Loc X.env.scope x) (he : DE X Γ W e f) (hs : swapsWith e (some (.Name x px)) pos.line X.env = pure false) (hf : X.fn x = true ∨ X.env.scope.names.lookup x = some .local) :
    DS X Γ W (.Assign [.Name x px] e pos) (sSet i f) := Mi.PS.mono (ps_set hN hi hx he hs hf) fun E σ H ⟨ω, S, h, sl, r, k⟩ => ⟨ω, S, h, sl, r, (k.st sl).mono fun ω1 d h1 H1 e1 r1 k1 v hv => k1.here r1 _ ((sl.ex e1).set hv)⟩
/-! ### targets -/
abbrev Bf := D → Sls → Hs → Option Sls
abbrev Bfs := List D → Sls → Hs → Option Sls
def tGd (Γ : Gm) (is : List Nat) (b : Bf) : TG := fun v σ H Q => ∃ ω S h d S', SlAt Γ ω S σ ∧ Rp Γ ω h H ∧ At Γ ω d v ∧ b d S h = some S' ∧ ∀ σ', SlAt Γ ω S' σ' → Mi.Agree is σ σ' → Q σ' H
def tGs (Γ : Gm) (is : List Nat) (b : Bfs) : TGs := fun vs σ H Q => ∃ ω S h ds S', SlAt Γ ω S σ ∧ Rp Γ ω h H ∧ Ats Γ ω ds vs ∧ b ds S h = some S' ∧ ∀ σ', SlAt Γ ω S' σ' → Mi.Agree is σ σ' → Q σ' H
def DG (X : Cx) (Γ : Gm) (tg : Expr) (is : List Nat) (b : Bf) : Prop := PG X tg (tGd Γ is b)
def DGs (X : Cx) (Γ : Gm) (tgs : List Expr) (is : List Nat) (b : Bfs) : Prop := PGs X tgs (tGs Γ is b)
def bName (i : Nat) : Bf := fun d S _ => some (S.set i (some d))
theorem dg_name {i : Nat} {x : Str} (hN : X.N.Nodup) (hi : X.N[i]? = some x) (hx : Loc X.env.scope x) (hf : X.fn x = true ∨ X.env.scope.names.lookup x = some .local) : DG X Γ (.Name x pos) [i] (bName i) :=
  Mi.PG.mono (pg_name hN hi hx hf) fun v σ H Q ⟨ω, S, h, d, S', sl, r, ha, hb, k⟩ => by
    cases hb
    refine k _ (sl.set ha) ⟨by rw [List.length_set], fun j hj => ?_⟩
    rw [List.getElem?_set_ne (fun z => hj (by rw [z]; exact List.mem_singleton_self _))]
def bsNil : Bfs := fun ds S _ => match ds with
  | [] => some S
  | _ => none
def bsCons (b : Bf) (bs : Bfs) : Bfs := fun ds S h => match ds with
  | d :: ds => (b d S h).bind fun S' => bs ds S' h
  | [] => none
theorem dgs_nil : DGs X Γ [] [] bsNil := Mi.PGs.mono pgs_nil fun vs σ H Q ⟨ω, S, h, ds, S', sl, r, ha, hb, k⟩ => by
  unfold bsNil at hb
  split at hb
  · cases hb
    obtain rfl := ha
    exact ⟨rfl, k σ sl Mi.Agree.refl⟩
  · cases hb
theorem dgs_cons {es : List Expr} {is js : List Nat} {bb : Bf} {bs : Bfs} (h1 : DG X Γ e is bb) (h2 : DGs X Γ es js bs) (hs : (assignEach (e :: es) X.env).map (·.2) = assign e X.env :: (assignEach es X.env).map (·.2)) : DGs X Γ (e :: es) (is ++ js) (bsCons bb bs) :=
  Mi.PGs.mono (pgs_cons h1 h2 hs) fun vs σ H Q ⟨ω, S, h, ds, S', sl, r, ha, hb, k⟩ => by
    unfold bsCons at hb
    split at hb
    · rename_i d ds
      obtain ⟨S1, hb1, hb2⟩ := Option.bind_eq_some_iff.mp hb
      obtain ⟨x, xs, rfl, hx, hxs⟩ := ha
      exact ⟨x, xs, rfl, ω, S, h, d, S1, sl, r, hx, hb1, fun σ1 sl1 ag1 => ⟨ω, S1, h, ds, S', sl1, r, hxs, hb2, fun σ2 sl2 ag2 => k σ2 sl2 ((ag1.mono fun i hi => List.mem_append_left _ hi).trans (ag2.mono fun i hi => List.mem_append_right _ hi))⟩⟩
    · cases hb
theorem PG.or {t t' : TG} (h : PG X tg t) (h' : PG X tg t') : PG X tg fun v σ H Q => t v σ H Q ∨ t' v σ H Q := ⟨fun pins s σ H v u Q I r q => q.elim (h.run pins s σ H v u Q I r) (h'.run pins s σ H v u Q I r)⟩
def bTup (n : Nat) (bs : Bfs) : Bf := fun d S h => match seqOf h d with
  | some l => if l.length = n then bs l S h else none
  | none => none
theorem dg_tup {es : List Expr} {kk : Nat} {is : List Nat} {bs : Bfs} {n : Nat} (hc : X.calm = true) (hg : DGs X Γ es is bs) (hn : (assignEach es X.env).length = n) (hst : (assignEach es X.env).findIdx? (·.1) = none) : DG X Γ (.Tuple es kk pos) is (bTup n bs) :=
  Mi.PG.mono (PG.or (pg_tup hc hg hn hst) (pg_unl hc hg hn hst)) fun v σ H Q ⟨ω, S, h, d, S', sl, r, ha, hb, k⟩ => by
    unfold bTup at hb
    split at hb
    · rename_i l hl
      split at hb
      · rename_i hlen
        obtain ⟨p, xs, rfl, hp, hs⟩ := seqOf_at (X := X) r ha hl
        rcases hp with hp | hp
        · exact .inl ⟨p, xs, rfl, hp, by rw [hs.len]; exact hlen, ω, S, h, l, S', sl, r, hs, hb, k⟩
        · exact .inr ⟨p, xs, rfl, hp, by rw [hs.len]; exact hlen, ω, S, h, l, S', sl, r, hs, hb, k⟩
      · cases hb
    · cases hb
/-- target = e -/
def sAsg (b : Bf) (f : Ef) : Sf := fun S h => (f S h).st S fun d h1 => match b d S h1 with
  | some S' => .ok (.nx S') h1
  | none => .no
theorem ds_asg {is : List Nat} {bb : Bf} (he : DE X Γ W e f) (hg : DG X Γ tg is bb) (hs : swapsWithSole [tg] e pos.line X.env = pure false) (hw : swappedStores [tg] e X.env = pure none) (h1 : (assignEach [tg] X.env).map (·.2) = [assign tg X.env]) :
    DS X Γ W (.Assign [tg] e pos) (sAsg bb f) := Mi.PS.mono (ps_asg he hg hs hw h1) fun E σ H ⟨ω, S, h, sl, r, k⟩ => ⟨ω, S, h, sl, r, (k.st sl).mono fun ω1 d h1 H1 e1 r1 k1 v hv => by
  split at k1
  · rename_i S' hb
    exact ⟨ω1, S, h1, d, S', sl.ex e1, r1, hv, hb, fun σ' sl' _ => k1.here r1 σ' sl'⟩
  · exact k1.elim⟩
/-- a, b = x, y (two local names); three -/
def sPar (i j : Nat) (g : Af) : Sf := fun S h => (g S h).st S fun ds h1 => match ds with
  | [d, e] => .ok (.nx ((S.set i (some d)).set j (some e))) h1
  | _ => .no
theorem ds_par {i j : Nat} {x y : Str} {g : Af} {px py pt : Pos} {kt k2 pt2} (hc : X.calm = true) (hN : X.N.Nodup) (hi : X.N[i]? = some x) (hj : X.N[j]? = some y) (hij : i ≠ j)
    (hx : X.env.scope.names.lookup x = some .local) (hy : X.env.scope.names.lookup y = some .local) (ha : DA X Γ W [a, b] g) (hw : swappedStores [.Tuple [.Name x px, .Name y py] kt pt] (.Tuple [a, b] k2 pt2) X.env = pure (some [x, y])) :
    DS X Γ W (.Assign [.Tuple [.Name x px, .Name y py] kt pt] (.Tuple [a, b] k2 pt2) pos) (sPar i j g) := Mi.PS.mono (ps_par hc hN hi hj hij hx hy ha hw) fun E σ H ⟨ω, S, h, sl, r, k⟩ => ⟨ω, S, h, sl, r, (k.st sl).mono fun ω1 ds h1 H1 e1 r1 k1 vs hs => by
  split at k1
  · obtain ⟨v, vr, rfl, hd, hs⟩ := hs
    obtain ⟨w, wr, rfl, hw, hs⟩ := hs
    obtain rfl := hs
    exact ⟨v, w, rfl, k1.here r1 _ (((sl.ex e1).set hd).set hw)⟩
  · exact k1.elim⟩
def sPar3 (i j l : Nat) (g : Af) : Sf := fun S h => (g S h).st S fun ds h1 => match ds with
  | [d, e, u] => .ok (.nx (((S.set i (some d)).set j (some e)).set l (some u))) h1
  | _ => .no
theorem ds_par3 {i j l : Nat} {x y z : Str} {g : Af} {px py pz pt : Pos} {kt k2 pt2} (hc : X.calm = true) (hN : X.N.Nodup) (hi : X.N[i]? = some x) (hj : X.N[j]? = some y) (hl : X.N[l]? = some z) (hij : i ≠ j) (hil : i ≠ l) (hjl : j ≠ l)
    (hx : X.env.scope.names.lookup x = some .local) (hy : X.env.scope.names.lookup y = some .local) (hz : X.env.scope.names.lookup z = some .local) (ha : DA X Γ W [a, b, c] g) (hw : swappedStores [.Tuple [.Name x px, .Name y py, .Name z pz] kt pt] (.Tuple [a, b, c] k2 pt2) X.env = pure (some [x, y, z])) :
    DS X Γ W (.Assign [.Tuple [.Name x px, .Name y py, .Name z pz] kt pt] (.Tuple [a, b, c] k2 pt2) pos) (sPar3 i j l g) := Mi.PS.mono (ps_par3 hc hN hi hj hl hij hil hjl hx hy hz ha hw) fun E σ H ⟨ω, S, h, sl, r, k⟩ => ⟨ω, S, h, sl, r, (k.st sl).mono fun ω1 ds h1 H1 e1 r1 k1 vs hs => by
  split at k1
  · obtain ⟨v, vr, rfl, hd, hs⟩ := hs
    obtain ⟨w, wr, rfl, hw, hs⟩ := hs
    obtain ⟨u, ur, rfl, hu, hs⟩ := hs
    obtain rfl := hs
    exact ⟨v, w, u, rfl, k1.here r1 _ ((((sl.ex e1).set hd).set hw).set hu)⟩
  · exact k1.elim⟩
/-! ### o.f = e -/
def putI (c j : Nat) (d : D) (h : Hs) : D → Option Hs
  | .loc n => match h.get n with
    | some (.ins c' l) => if c' = c then (if j < l.length then some (h.put n (.ins c (l.set j d))) else if l.length = j then some (h.put n (.ins c (l ++ [d]))) else none) else none
    | _ => none
  | _ => none
def sStore (c j : Nat) (fo fe : Ef) : Sf := fun S h => (fe S h).st S fun d h1 => (fo S h1).st S fun o h2 => match putI c j d h2 o with
  | some h3 => .ok (.nx S) h3
  | none => .no
theorem putI_at {cc j : Nat} {f : Str} {ω : Wd} {h h' : Hs} {H : Hp} {d o' : D} {v x : V} (C : ClsF Γ X.K cc) (hf : (Γ.ct.fld cc)[j]? = some f) (r : Rp Γ ω h H) (hv : At Γ ω d v) (hx : At Γ ω o' x) (e : putI cc j d h o' = some h') :
    ∃ a dx fs, x = .ref a ∧ H a = some (.ins (Γ.ct.cls cc) dx fs) ∧ fs.length < 1000 ∧ Rp Γ ω h' (upd H a (.ins (Γ.ct.cls cc) dx (putF f v fs))) := by
  cases o' with
  | loc n =>
    obtain ⟨hn, rfl⟩ := hx
    dsimp only [putI] at e
    split at e
    · rename_i c' l hc
      split at e
      · rename_i hcc
        subst hcc
        obtain ⟨dx, fs, ha, hk, hs⟩ := r.at_ hn hc
        have lf : fs.length = l.length := by have := hs.len; rw [List.length_map] at this; exact this
        have le := C.le
        have ll : l.length ≤ (Γ.ct.fld c').length := by
          have e2 : (fs.map (·.1)).length = ((Γ.ct.fld c').take l.length).length := by rw [hk]
          rw [List.length_map, List.length_take] at e2
          omega
        have nd : (fs.map (·.1)).Nodup := by rw [hk]; exact C.nd.sublist (List.take_sublist _ _)
        refine ⟨_, dx, fs, rfl, ha, by omega, ?_⟩
        split at e
        · rename_i hj
          cases e
          have e1 : (fs.map (·.1))[j]? = some f := by rw [hk, List.getElem?_take, if_pos hj]; exact hf
          obtain ⟨p1, p2⟩ := Mi.putF_old (v := v) e1 nd
          refine r.write hn hc rfl ⟨dx, _, upd_same, ?_, ?_⟩
          · rw [p1, hk, List.length_set]
          · rw [p2]
            exact hs.set hv
        · split at e
          · rename_i hj
            cases e
            have nf : f ∉ fs.map (·.1) := fun m => by
              rw [hk] at m
              obtain ⟨i', hi'⟩ := List.getElem?_of_mem m
              have lt : i' < l.length := by
                have := (List.getElem?_eq_some_iff.mp hi').1
                rw [List.length_take] at this
                omega
              rw [List.getElem?_take, if_pos lt] at hi'
              have z := (List.getElem?_inj (by omega) C.nd).mp (hi'.trans hf.symm)
              omega
            refine r.write hn hc rfl ⟨dx, _, upd_same, ?_, ?_⟩
            · rw [Mi.putF_new nf, List.map_append, hk, List.length_append, List.map_cons, List.map_nil, List.length_cons, List.length_nil, hj, List.take_add_one, hf]
              rfl
            · rw [Mi.putF_new nf, List.map_append]
              exact hs.append (Ats.one hv)
          · cases e
      · cases e
    · cases e
  | _ => cases e
theorem ds_store {cc j : Nat} {f : Str} {fo fe : Ef} (C : ClsF Γ X.K cc) (hf : (Γ.ct.fld cc)[j]? = some f) (ho : DE X Γ W o fo) (he : DE X Γ W e fe) (hs : swapsWith e (some (.Attribute o f pos')) pos.line X.env = pure false) :
    DS X Γ W (.Assign [.Attribute o f pos'] e pos) (sStore cc j fo fe) := Mi.PS.mono (ps_fld ho he hs) fun E σ H ⟨ω, S, h, sl, r, k⟩ => ⟨ω, S, h, sl, r, (k.st sl).mono fun ω1 d h1 H1 e1 r1 k1 v hv => ⟨ω1, S, h1, sl.ex e1, r1, (k1.st (sl.ex e1)).mono fun ω2 o' h2 H2 e2 r2 k2 x hx => by
  split at k2
  · rename_i h3 hp
    obtain ⟨a, dx, fs, rfl, ha, hl, r3⟩ := putI_at (X := X) C hf r2 (hv.ex e2) hx hp
    exact ⟨a, _, dx, fs, rfl, ha, C.cl, C.na f (List.mem_of_getElem? hf), by omega, k2.here r3 σ (sl.ex (e1.trans e2))⟩
  · exact k2.elim⟩⟩
/-! ### while -/
def wF (t : Tf) (gb : Sf) : Nat → Sls → Hs → Rs Fl
  | 0, _, _ => .no
  | n + 1, S, h => (t S h).st S fun b h1 => match b with
    | true => (gb S h1).bind fun fl h2 => match fl with
      | .nx S' => wF t gb n S' h2
      | .ct S' => wF t gb n S' h2
      | .bk S' => .ok (.nx S') h2
      | fl => .ok fl h2
    | false => .ok (.nx S) h1
theorem ds_while (n : Nat) (hp : PassesOwn (model X.prog X.w) X.A X.env X.xe) (hc : DT X Γ W c t) (hb : DSs X Γ W body gb) : DS X Γ W (.While c body [] pos) (wF t gb n) := Mi.PS.mono (ps_while hp hc hb) fun E σ H ⟨ω, S, h, sl, r, k⟩ => by
  refine ⟨fun m σ H => ∃ ω S h, SlAt Γ ω S σ ∧ Rp Γ ω h H ∧ OkR Γ ω WN [] (wF t gb m S h) (fEnds Γ W E), ⟨n, ω, S, h, sl, r, k⟩, ?_⟩
  rintro m σ H ⟨ω, S, h, sl, r, k⟩
  cases m with
  | zero => exact k.elim
  | succ m =>
    refine ⟨ω, S, h, sl, r, (OkR.st k sl).mono fun ω1 b h1 H1 e1 r1 k1 => ?_⟩
    cases b with
    | false => rw [if_neg Bool.false_ne_true]; exact k1.here r1 σ (sl.ex e1)
    | true =>
      rw [if_pos rfl]
      refine ⟨fun σ' H' => ∃ ω S h, SlAt Γ ω S σ' ∧ Rp Γ ω h H' ∧ OkR Γ ω WN [] (wF t gb m S h) (fEnds Γ W E), fun σ' H' z => ⟨m, Nat.lt_succ_self m, z⟩, ω1, S, h1, sl.ex e1, r1, k1.step fun ω2 fl h2 H2 e2 r2 k2 => ?_⟩
      cases fl with
      | nx S' => exact fun σ' sl' => ⟨ω2, S', h2, sl', r2, k2⟩
      | ct S' => exact fun σ' sl' => ⟨ω2, S', h2, sl', r2, k2⟩
      | bk S' => exact k2.here r2
      | rt d => exact k2.here r2
      | xr c d S' => exact k2.here r2
/-! ### raise -/
structure ErrH (X : Cx) (Γ : Gm) (c : Nat) (x f : Str) : Prop where
  ex : ∃ (fI : Addr) (fd : FuncData), Fu.ErrC X.K X.mg x f (Γ.ct.err c) fI ∧ FnOk X.prog X.w X.K X.mg X.base CX0 1 fI fd ["self", f] (Fu.spX (Γ.ct.err c) f) ∧ Binds X.K fd ["self", f] []
  ef : Γ.ct.erf c = some f
def sRaise (c : Nat) (f : Ef) : Sf := fun S h => (f S h).st S fun d h1 => .ok (.xr c (some d) S) h1
theorem tE_mono {σ : St} {H : Hp} {Q Q' : VK} (m : ∀ v H1, Q v H1 → Q' v H1) (h : tE Γ W f σ H Q) : tE Γ W f σ H Q' := by
  obtain ⟨ω, S, h, sl, r, k⟩ := h
  exact ⟨ω, S, h, sl, r, k.mono fun ω1 d h1 H1 e1 r1 k1 v hv => m v H1 (k1 v hv)⟩
theorem ds_raise {cc : Nat} {x f : Str} {pos2 p : Pos} (I : ErrH X Γ cc x f) (hc : X.calm = true) (hr : Room 2 X.A) (tk : Takes X W) (ha : DE X Γ W e fa) (hg : Gl X x) (hs : starEach [e] X.env = (false, eval e X.env) :: starEach [] X.env)
    (hdb : (x == ("__debug__" : Str)) = false) (hpl : (backTo pos (starEach [] X.env)).any (·.1) = false := by rfl) : DS X Γ W (.Raise (some (.Call (.Name x p) [e] [] pos)) none pos2) (sRaise cc fa) := by
  obtain ⟨fI, fd, T, F1, hb⟩ := I.ex
  refine Mi.PS.mono (Fu.ps_raiseX (k := 1) hc T F1 hr hb pass0 tk ha (fun σ H Q Q' m h => tE_mono m h) hg hs hdb hpl) fun E σ H ⟨ω, S, h, sl, r, k⟩ => ⟨ω, S, h, sl, r, (k.st sl).mono fun ω1 d h1 H1 e1 r1 k1 v hv => ?_⟩
  refine ⟨v, rfl, fun q hq => ?_⟩
  have z := k1.there (Ext.refl ω1) (r1.same (same_new (o := .xd [(f, v)]) hq))
  refine z (some q) σ (sl.ex e1) ?_
  unfold ErrAt
  rw [I.ef]
  exact ⟨q, v, rfl, upd_same, hv⟩
end
end He
end

/-! The heap evaluator: for loops, comprehensions. -/
noncomputable section
namespace He
open PySem L2
open PyProof.Rows hiding St
open Fu (RoomG FnG)
/-- what a loop walks -/
inductive Wk where
  | seq (l : List D) | lst (n : Nat) | enm (n : Nat) | zip (n m : Nat) | rng (lo : Int) (n : Nat)
def lstAt (h : Hs) (n : Nat) : Option (List D) := match h.get n with
  | some (.lst l) => some l
  | _ => none
def Wk.nxt (w : Wk) (i : Nat) (h : Hs) : Option (Option D) := match w with
  | .seq l => some l[i]?
  | .lst n => (lstAt h n).map fun l => l[i]?
  | .enm n => (lstAt h n).map fun l => l[i]?.map fun d => .tup [.int i, d]
  | .zip n m => (lstAt h n).bind fun l => (lstAt h m).map fun l' => l[i]?.bind fun d => l'[i]?.map fun e => .tup [d, e]
  | .rng lo n => some (if i < n then some (.int (lo + i)) else none)
def WalkH (Γ : Gm) (ω : Wd) (J : It) (w : Wk) : Prop := ∀ (ω' : Wd) (i : Nat) (h : Hs) (H : Hp), Ext ω ω' → Rp Γ ω' h H → (w.nxt i h = some none → J.stop i H) ∧ ∀ d, w.nxt i h = some (some d) → J.go i H ∧ ∀ x H', J.yld i H x H' → ∃ ω2, Ext ω' ω2 ∧ Rp Γ ω2 h H' ∧ At Γ ω2 d x
section
variable {X : Cx} {Γ : Gm} {W : WX} {e a b c tg : Expr} {body : List Stmt} {f fa fb : Ef} {gb : Sf} {pos p : Pos}
theorem lstAt_at {ω : Wd} {h : Hs} {H : Hp} {n : Nat} {l : List D} (r : Rp Γ ω h H) (hn : n < ω.N) (e : lstAt h n = some l) : ∃ xs, H (ω.ι n) = some (.lst xs) ∧ Ats Γ ω l xs := by
  unfold lstAt at e
  split at e
  · rename_i l' hl
    cases e
    exact r.at_ hn hl
  · cases e
theorem opt_none {α : Type} {o : Option (Option α)} (h : o = some none) : ∃ z, o = some z ∧ z = none := ⟨none, h, rfl⟩
theorem sqL_one {K : PySem.W.Frag} {H : Hp} {a : Addr} {xs ys : List V} (h : H a = some (.lst xs)) (q : SqL K H a ys → ∀ {z : List V}, SqL K H a z → z = ys) : True := trivial
theorem walk_lst {ω : Wd} {n : Nat} (hn : n < ω.N) : WalkH Γ ω (Itl X.K (ω.ι n)) (.lst n) := by
  intro ω' i h H ex r
  have hn' : n < ω'.N := Nat.lt_of_lt_of_le hn ex.n
  rw [← ex.i n hn]
  refine ⟨fun e => ?_, fun d e => ?_⟩
  · obtain ⟨l, hl, e⟩ := Option.map_eq_some_iff.mp e
    obtain ⟨xs, ha, hs⟩ := lstAt_at r hn' hl
    exact ⟨xs, SqL.of ha, by rw [hs.len]; exact List.getElem?_eq_none_iff.mp e⟩
  · obtain ⟨l, hl, e⟩ := Option.map_eq_some_iff.mp e
    obtain ⟨xs, ha, hs⟩ := lstAt_at r hn' hl
    obtain ⟨x, hx, hat⟩ := hs.get e
    refine ⟨⟨xs, x, SqL.of ha, hx⟩, fun y H' q => ?_⟩
    obtain ⟨rfl, q⟩ := q
    have := q xs (SqL.of ha)
    rw [hx] at this
    cases this
    exact ⟨ω', Ext.refl _, r, hat⟩
theorem walk_tup {ω : Wd} {q : Addr} {xs : List V} {l : List D} (hq : ω.M q = some (.tup xs)) (hs : Ats Γ ω l xs) : WalkH Γ ω (Itt X.K q) (.seq l) := by
  intro ω' i h H ex r
  have ha := r.sub _ _ (ex.m _ _ hq)
  have hs := hs.ex ex
  refine ⟨fun e => ?_, fun d e => ?_⟩
  · have e : l[i]? = none := Option.some.inj e
    exact ⟨xs, SqT.of ha, by rw [hs.len]; exact List.getElem?_eq_none_iff.mp e⟩
  · have e : l[i]? = some d := Option.some.inj e
    obtain ⟨x, hx, hat⟩ := hs.get e
    refine ⟨⟨xs, x, SqT.of ha, hx⟩, fun y H' q => ?_⟩
    obtain ⟨rfl, q⟩ := q
    have := q xs (SqT.of ha)
    rw [hx] at this
    cases this
    exact ⟨ω', Ext.refl _, r, hat⟩
theorem walk_rng {ω : Wd} {lo : Int} {n : Nat} : WalkH Γ ω (Itr lo n) (.rng lo n) := by
  intro ω' i h H ex r
  refine ⟨fun e => ?_, fun d e => ?_⟩
  · have e : (if i < n then some (D.int (lo + i)) else none) = none := Option.some.inj e
    show n ≤ i
    split at e
    · cases e
    · omega
  · have e : (if i < n then some (D.int (lo + i)) else none) = some d := Option.some.inj e
    split at e
    · rename_i hi
      cases e
      refine ⟨hi, fun y H' q => ?_⟩
      obtain ⟨rfl, rfl⟩ := q
      exact ⟨ω', Ext.refl _, r, rfl⟩
    · cases e
theorem walk_enm {ω : Wd} {n : Nat} (hn : n < ω.N) : WalkH Γ ω (Ite X.K (ω.ι n)) (.enm n) := by
  intro ω' i h H ex r
  have hn' : n < ω'.N := Nat.lt_of_lt_of_le hn ex.n
  rw [← ex.i n hn]
  refine ⟨fun e => ?_, fun d e => ?_⟩
  · obtain ⟨l, hl, e⟩ := Option.map_eq_some_iff.mp e
    obtain ⟨xs, ha, hs⟩ := lstAt_at r hn' hl
    exact ⟨xs, SqL.of ha, by rw [hs.len]; exact List.getElem?_eq_none_iff.mp (Option.map_eq_none_iff.mp e)⟩
  · obtain ⟨l, hl, e⟩ := Option.map_eq_some_iff.mp e
    obtain ⟨d', e5, rfl⟩ := Option.map_eq_some_iff.mp e
    obtain ⟨xs, ha, hs⟩ := lstAt_at r hn' hl
    obtain ⟨x, hx, hat⟩ := hs.get e5
    refine ⟨⟨xs, x, SqL.of ha, hx⟩, fun y H' q => ?_⟩
    obtain ⟨T, x', rfl, hT, rfl, q⟩ := q
    have := q xs (SqL.of ha)
    rw [hx] at this
    cases this
    obtain ⟨r2, x2⟩ := r.newM (o := .tup [.int (i : Nat), x]) hT
    exact ⟨_, x2, r2, T, _, rfl, upd_same, _, _, rfl, rfl, _, _, rfl, hat.ex x2, rfl⟩
theorem walk_zip {ω : Wd} {n m : Nat} (hn : n < ω.N) (hm : m < ω.N) : WalkH Γ ω (Itz X.K (ω.ι n) (ω.ι m)) (.zip n m) := by
  intro ω' i h H ex r
  have hn' : n < ω'.N := Nat.lt_of_lt_of_le hn ex.n
  have hm' : m < ω'.N := Nat.lt_of_lt_of_le hm ex.n
  rw [← ex.i n hn, ← ex.i m hm]
  refine ⟨fun e => ?_, fun d e => ?_⟩
  · obtain ⟨l, hl, e⟩ := Option.bind_eq_some_iff.mp e
    obtain ⟨l', hl', e⟩ := Option.map_eq_some_iff.mp e
    obtain ⟨xs, ha, hs⟩ := lstAt_at r hn' hl
    obtain ⟨ys, hb, ht⟩ := lstAt_at r hm' hl'
    refine ⟨xs, ys, SqL.of ha, SqL.of hb, ?_⟩
    rw [hs.len, ht.len]
    cases q : l[i]? with
    | none => exact .inl (List.getElem?_eq_none_iff.mp q)
    | some d =>
      rw [q] at e
      exact .inr (List.getElem?_eq_none_iff.mp (Option.map_eq_none_iff.mp e))
  · obtain ⟨l, hl, e⟩ := Option.bind_eq_some_iff.mp e
    obtain ⟨l', hl', e⟩ := Option.map_eq_some_iff.mp e
    obtain ⟨d', q, e⟩ := Option.bind_eq_some_iff.mp e
    obtain ⟨e', q', rfl⟩ := Option.map_eq_some_iff.mp e
    obtain ⟨xs, ha, hs⟩ := lstAt_at r hn' hl
    obtain ⟨ys, hb, ht⟩ := lstAt_at r hm' hl'
    obtain ⟨x, hx, hat⟩ := hs.get q
    obtain ⟨y, hy, hbt⟩ := ht.get q'
    refine ⟨⟨xs, ys, x, y, SqL.of ha, SqL.of hb, hx, hy⟩, fun z H' q => ?_⟩
    obtain ⟨T, x', y', rfl, hT, rfl, q1, q2⟩ := q
    have z1 := q1 xs (SqL.of ha)
    rw [hx] at z1
    cases z1
    have z2 := q2 ys (SqL.of hb)
    rw [hy] at z2
    cases z2
    obtain ⟨r2, x2⟩ := r.newM (o := .tup [x, y]) hT
    exact ⟨_, x2, r2, T, _, rfl, upd_same, _, _, rfl, hat.ex x2, _, _, rfl, hbt.ex x2, rfl⟩
def chr1 (c : Nat) : D := .str ⟨#[c]⟩
theorem walk_str {ω : Wd} {x : Str} : WalkH Γ ω (Its x) (.seq (x.cps.toList.map chr1)) := by
  intro ω' i h H ex r
  refine ⟨fun e => ?_, fun d e => ?_⟩
  · have e : (x.cps.toList.map chr1)[i]? = none := Option.some.inj e
    have := List.getElem?_eq_none_iff.mp e
    rw [List.length_map, Array.length_toList] at this
    exact this
  · have e : (x.cps.toList.map chr1)[i]? = some d := Option.some.inj e
    have hi : i < x.cps.size := by
      have := (List.getElem?_eq_some_iff.mp e).1
      rw [List.length_map, Array.length_toList] at this
      exact this
    refine ⟨hi, fun y H' q => ?_⟩
    obtain ⟨rfl, c, hc, rfl⟩ := q
    rw [List.getElem?_map, Array.getElem?_toList, hc] at e
    cases e
    exact ⟨ω', Ext.refl _, r, rfl⟩

/-! ### what is walked -/
abbrev If := Sls → Hs → Rs Wk
def tI (Γ : Gm) (W : WX) (g : If) : TI := fun σ H R => ∃ ω S h, SlAt Γ ω S σ ∧ Rp Γ ω h H ∧ OkR Γ ω W σ (g S h) fun ω' w _ H' => ∀ J, WalkH Γ ω' J w → R J H'
def DI (X : Cx) (Γ : Gm) (W : WX) (tg iter : Expr) (g : If) : Prop := PI X tg iter (tI Γ W g)
theorem PI.or {t t' : TI} (h : PI X tg e t) (h' : PI X tg e t') : PI X tg e fun σ H R => t σ H R ∨ t' σ H R := ⟨fun pins s σ H R I q => q.elim (h.run pins s σ H R I) (h'.run pins s σ H R I)⟩
/-- a list, a tuple, a text -/
def wkOf (h : Hs) : D → Option Wk
  | .tup l => some (.seq l)
  | .str x => some (.seq (x.cps.toList.map chr1))
  | .loc n => match h.get n with
    | some (.lst _) => some (.lst n)
    | _ => none
  | _ => none
def iSeq (f : Ef) : If := fun S h => (f S h).bind fun d h1 => lift h1 (wkOf h1 d)
def iLst (f : Ef) : If := fun S h => (f S h).bind fun d h1 => match d with
  | .loc n => match lstAt h1 n with
    | some _ => .ok (.lst n) h1
    | none => .no
  | _ => .no
theorem di_lst (he : DE X Γ W e f) : DI X Γ W tg e (iLst f) := Mi.PI.mono (pi_list he) fun σ H R ⟨ω, S, h, sl, r, k⟩ => ⟨ω, S, h, sl, r, k.step fun ω1 d h1 H1 e1 r1 k1 v hv => by
  split at k1
  · split at k1
    · rename_i l hl
      obtain ⟨hn, rfl⟩ := hv
      obtain ⟨xs, ha, hs⟩ := lstAt_at r1 hn hl
      exact ⟨_, rfl, ⟨xs, SqL.of ha⟩, k1.here r1 _ (walk_lst hn)⟩
    · exact k1.elim
  · exact k1.elim⟩
def iTu (f : Ef) : If := fun S h => (f S h).bind fun d h1 => match d with
  | .tup l => .ok (.seq l) h1
  | _ => .no
theorem di_tup (he : DE X Γ W e f) : DI X Γ W tg e (iTu f) := Mi.PI.mono (pi_tup he) fun σ H R ⟨ω, S, h, sl, r, k⟩ => ⟨ω, S, h, sl, r, k.step fun ω1 d h1 H1 e1 r1 k1 v hv => by
  split at k1
  · obtain ⟨p, xs, rfl, hp, hs⟩ := hv
    exact ⟨p, rfl, ⟨xs, SqT.of (r1.sub _ _ hp)⟩, k1.here r1 _ (walk_tup hp hs)⟩
  · exact k1.elim⟩
/-- any of the three: no draw within -/
def noAll {α : Type} : Rs α → Rs α
  | .all _ _ => .no
  | r => r
def iAny (f : Ef) : If := fun S h => (noAll (f S h)).bind fun d h1 => lift h1 (wkOf h1 d)
theorem di_any (he : DE X Γ W e f) : DI X Γ W tg e (iAny f) := Mi.PI.mono (PI.or (pi_list he) (PI.or (pi_tup he) (pi_str he))) fun σ H R ⟨ω, S, h, sl, r, k⟩ => by
  unfold iAny at k
  cases q : f S h with
  | no => rw [q] at k; exact k.elim
  | all n g => rw [q] at k; exact k.elim
  | er c d h1 =>
    rw [q] at k
    exact .inl ⟨ω, S, h, sl, r, by rw [q]; exact k⟩
  | ok d h1 =>
    rw [q] at k
    obtain ⟨w, hw, k⟩ := OkR.lift (show OkR Γ ω W σ (lift h1 (wkOf h1 d)) _ from k)
    cases d with
    | tup l =>
      cases hw
      refine .inr (.inl ⟨ω, S, h, sl, r, ?_⟩)
      rw [q]
      intro ω1 H1 e1 r1 v hv
      obtain ⟨p, xs, rfl, hp, hs⟩ := hv
      exact ⟨p, rfl, ⟨xs, SqT.of (r1.sub _ _ hp)⟩, k.there e1 r1 _ (walk_tup hp hs)⟩
    | str x =>
      cases hw
      refine .inr (.inr ⟨ω, S, h, sl, r, ?_⟩)
      rw [q]
      intro ω1 H1 e1 r1 v hv
      exact ⟨x, hv, k.there e1 r1 _ walk_str⟩
    | loc n =>
      dsimp only [wkOf] at hw
      split at hw
      · rename_i l hl
        cases hw
        refine .inl ⟨ω, S, h, sl, r, ?_⟩
        rw [q]
        intro ω1 H1 e1 r1 v hv
        obtain ⟨hn, rfl⟩ := hv
        obtain ⟨xs, ha, hs⟩ := r1.at_ hn hl
        exact ⟨_, rfl, ⟨xs, SqL.of ha⟩, k.there e1 r1 _ (walk_lst hn)⟩
      · cases hw
    | _ => cases hw
def iR1 (g : Af) : If := fun S h => (g S h).bind fun ds h1 => match ds with
  | [.int j] => if j.natAbs ≤ 1000000 then .ok (.rng 0 j.toNat) h1 else .no
  | _ => .no
def iR2 (g : Af) : If := fun S h => (g S h).bind fun ds h1 => match ds with
  | [.int i, .int j] => if i.natAbs ≤ 1000000 ∧ j.natAbs ≤ 1000000 then .ok (.rng i (j - i).toNat) h1 else .no
  | _ => .no
theorem di_range1 {g : Af} (hg : Gl X "range") (hm : X.mg "range" = none) (ha : DA X Γ W [a] g) (hs : starEach [a] X.env = [(false, eval a X.env)]) : DI X Γ W tg (.Call (.Name "range" p) [a] [] pos) (iR1 g) := Mi.PI.mono (pi_range1 hg hm ha hs) fun σ H R ⟨ω, S, h, sl, r, k⟩ => ⟨ω, S, h, sl, r, k.step fun ω1 ds h1 H1 e1 r1 k1 vs hs => by
  split at k1
  · rename_i j
    split at k1
    · rename_i hj
      obtain ⟨v, vr, rfl, hd, hs⟩ := hs
      obtain rfl := hs
      obtain rfl := hd
      exact ⟨j, rfl, by omega, by omega, k1.here r1 _ walk_rng⟩
    · exact k1.elim
  · exact k1.elim⟩
theorem di_range2 {g : Af} (hg : Gl X "range") (hm : X.mg "range" = none) (ha : DA X Γ W [a, b] g) (hs : starEach [a, b] X.env = [(false, eval a X.env), (false, eval b X.env)]) (hs2 : starEach [b] X.env = [(false, eval b X.env)]) : DI X Γ W tg (.Call (.Name "range" p) [a, b] [] pos) (iR2 g) := Mi.PI.mono (pi_range2 hg hm ha hs hs2) fun σ H R ⟨ω, S, h, sl, r, k⟩ => ⟨ω, S, h, sl, r, k.step fun ω1 ds h1 H1 e1 r1 k1 vs hs => by
  split at k1
  · rename_i i j
    split at k1
    · rename_i hj
      obtain ⟨v, vr, rfl, hd, hs⟩ := hs
      obtain ⟨v, vr, rfl, hd', hs⟩ := hs
      obtain rfl := hs
      obtain rfl := hd
      obtain rfl := hd'
      exact ⟨i, j, rfl, ⟨by omega, by omega, by omega, by omega⟩, k1.here r1 _ walk_rng⟩
    · exact k1.elim
  · exact k1.elim⟩
def iEnum (g : Af) : If := fun S h => (g S h).bind fun ds h1 => match ds with
  | [.loc n] => match h1.get n with
    | some (.lst _) => .ok (.enm n) h1
    | _ => .no
  | _ => .no
theorem di_enum {g : Af} {elts : List Expr} {kk : Nat} {tpos : Pos} (hg : Gl X "enumerate") (hm : X.mg "enumerate" = none) (ha : DA X Γ W [a] g) (hs : starEach [a] X.env = [(false, eval a X.env)]) : DI X Γ W (.Tuple elts kk tpos) (.Call (.Name "enumerate" p) [a] [] pos) (iEnum g) := Mi.PI.mono (pi_enum hg hm ha hs) fun σ H R ⟨ω, S, h, sl, r, k⟩ => ⟨ω, S, h, sl, r, k.step fun ω1 ds h1 H1 e1 r1 k1 vs hs => by
  split at k1
  · rename_i n
    split at k1
    · rename_i l hl
      obtain ⟨v, vr, rfl, hd, hs⟩ := hs
      obtain rfl := hs
      obtain ⟨hn, rfl⟩ := hd
      obtain ⟨xs, hx, hs⟩ := r1.at_ hn hl
      exact ⟨_, xs, rfl, SqL.of hx, k1.here r1 _ (walk_enm hn)⟩
    · exact k1.elim
  · exact k1.elim⟩
def iZip (g : Af) : If := fun S h => (g S h).bind fun ds h1 => match ds with
  | [.loc n, .loc m] => match h1.get n, h1.get m with
    | some (.lst _), some (.lst _) => .ok (.zip n m) h1
    | _, _ => .no
  | _ => .no

/-! ### for -/
def forF (w : Wk) (b : Bf) (gb : Sf) : Nat → Nat → Sls → Hs → Rs Fl
  | 0, _, _, _ => .no
  | n + 1, i, S, h => match w.nxt i h with
    | none => .no
    | some none => .ok (.nx S) h
    | some (some d) => match b d S h with
      | none => .no
      | some S1 => (gb S1 h).bind fun fl h1 => match fl with
        | .nx S2 => forF w b gb n (i + 1) S2 h1
        | .ct S2 => forF w b gb n (i + 1) S2 h1
        | .bk S2 => .ok (.nx S2) h1
        | fl => .ok fl h1
theorem for_ok {ω : Wd} {J : It} {w : Wk} {b : Bf} {is : List Nat} {E : Ends} {n : Nat} {S : Sls} {h : Hs} {σ : St} {H : Hp} (wk : WalkH Γ ω J w) (sl : SlAt Γ ω S σ) (r : Rp Γ ω h H) (k : OkR Γ ω WN [] (forF w b gb n 0 S h) (fEnds Γ W E)) :
    ∃ Wi : Nat → Nat → St → Hp → Prop, (∃ m, Wi 0 m σ H) ∧ ∀ i m σ H, Wi i m σ H →
      (J.stop i H ∧ E.nx σ H) ∨ (J.go i H ∧ ∃ N : St → Hp → Prop, (∀ σ' H', N σ' H' → ∃ m', m' < m ∧ Wi (i + 1) m' σ' H') ∧ ∀ x H', J.yld i H x H' → tGd Γ is b x σ H' fun σ2 H2 => tSt Γ W gb { E with nx := N, ct := N, bk := E.nx } σ2 H2) := by
  refine ⟨fun i m σ H => ∃ ω' S h, Ext ω ω' ∧ SlAt Γ ω' S σ ∧ Rp Γ ω' h H ∧ OkR Γ ω' WN [] (forF w b gb m i S h) (fEnds Γ W E), ⟨n, ω, S, h, Ext.refl ω, sl, r, k⟩, ?_⟩
  rintro i m σ H ⟨ω1, S, h, e1, sl, r, k⟩
  cases m with
  | zero => exact k.elim
  | succ m =>
    obtain ⟨w1, w2⟩ := wk ω1 i h H e1 r
    unfold forF at k
    split at k
    · exact k.elim
    · rename_i q
      exact .inl ⟨w1 q, k.here r σ sl⟩
    · rename_i d q
      obtain ⟨go, yl⟩ := w2 d q
      split at k
      · exact k.elim
      · rename_i S1 hb
        refine .inr ⟨go, fun σ H => ∃ ω' S h, Ext ω ω' ∧ SlAt Γ ω' S σ ∧ Rp Γ ω' h H ∧ OkR Γ ω' WN [] (forF w b gb m (i + 1) S h) (fEnds Γ W E), fun σ' H' z => ⟨m, Nat.lt_succ_self m, z⟩, fun x H' y => ?_⟩
        obtain ⟨ω2, e2, r2, hat⟩ := yl x H' y
        refine ⟨ω2, S, h, d, S1, sl.ex e2, r2, hat, hb, fun σ2 sl2 _ => ⟨ω2, S1, h, sl2, r2, OkR.step (k.ex e2) fun ω3 fl h3 H3 e3 r3 k3 => ?_⟩⟩
        cases fl with
        | nx S2 => exact fun σ' sl' => ⟨ω3, S2, h3, e1.trans (e2.trans e3), sl', r3, k3⟩
        | ct S2 => exact fun σ' sl' => ⟨ω3, S2, h3, e1.trans (e2.trans e3), sl', r3, k3⟩
        | bk S2 => exact k3.here r3
        | rt d => exact k3.here r3
        | xr c d S2 => exact k3.here r3
def sFor (n : Nat) (g : If) (b : Bf) (gb : Sf) : Sf := fun S h => (g S h).st S fun w h1 => forF w b gb n 0 S h1
theorem ds_for {n : Nat} {g : If} {is : List Nat} {bb : Bf} {iter : Expr} (hp : PassesOwn (model X.prog X.w) X.A X.env X.xe) (hc : X.calm = true) (hi : DI X Γ W tg iter g) (hg : DG X Γ tg is bb) (hb : DSs X Γ W body gb) (hs : ∀ x, foldedSetIterable iter X.env x = pure x) :
    DS X Γ W (.For tg iter body [] pos) (sFor n g bb gb) := Mi.PS.mono (ps_for hp hc hi hg hb hs) fun E σ H ⟨ω, S, h, sl, r, k⟩ => ⟨ω, S, h, sl, r, (k.st sl).mono fun ω1 w h1 H1 e1 r1 k1 J wk => for_ok wk (sl.ex e1) r1 k1⟩

/-! ### [e for x in it if t] -/
def wipeS (S : Sls) : List Nat → Sls
  | [] => S
  | v :: vs => (wipeS S vs).set v none
theorem SlAt.wipe {ω : Wd} {S : Sls} {σ : St} (h : SlAt Γ ω S σ) : ∀ vs : List Nat, SlAt Γ ω (wipeS S vs) (L2.wipe σ vs)
  | [] => h
  | v :: vs => (h.wipe vs).del
def loopC (w : Wk) (b : Bf) (tt : Tf) (fe : Ef) (n0 : Nat) (S : Sls) : Nat → Nat → Hs → Rs Unit
  | 0, _, _ => .no
  | n + 1, i, h => match w.nxt i h with
    | none => .no
    | some none => .ok () h
    | some (some d) => match b d S h with
      | none => .no
      | some S1 => (tt S1 h).bind fun c h1 => match c with
        | true => (fe S1 h1).bind fun y h2 => match lstAt h2 n0 with
          | some acc => if acc.length < 100000 then loopC w b tt fe n0 S n (i + 1) (h2.put n0 (.lst (acc ++ [y]))) else .no
          | none => .no
        | false => loopC w b tt fe n0 S n (i + 1) h1
def fLc (n : Nat) (vs : List Nat) (g : If) (b : Bf) (tt : Tf) (fe : Ef) : Ef := fun S h => (g S h).bind fun w h1 => if h1.nx < 1000000000 then (pur (loopC w b tt fe h1.nx (wipeS S vs) n 0 (h1.push (.lst [])))).bind fun _ h2 => .ok (.loc h1.nx) h2 else .no
def gYes : Tf := fun _ h => .ok true h
theorem lst_get {h : Hs} {n : Nat} {l : List D} (e : lstAt h n = some l) : h.get n = some (.lst l) := by
  unfold lstAt at e
  split at e
  · cases e; assumption
  · cases e
theorem lc_le {n : Nat} {vs is : List Nat} {g : If} {b : Bf} {tt : Tf} {fe : Ef} (hi : ∀ i ∈ is, i ∈ vs) : ∀ σ H Q, tE Γ W (fLc n vs g b tt fe) σ H Q → tLc (tI Γ W g) (tGd Γ is b) (tT Γ WN tt) (tE Γ WN fe) vs σ H Q := by
  rintro σ H Q ⟨ω, S, h, sl, r, k⟩
  refine ⟨ω, S, h, sl, r, k.step fun ω1 w h1 H1 e1 r1 k1 J wk D hD => ?_⟩
  split at k1
  · rename_i hl
    have x1 := Wd.push_ext ω1 D
    have r2 := r1.newC (c := .lst []) hD hl (same_new (o := .lst []) hD) ⟨[], upd_same, rfl⟩
    have hN : h1.nx < (ω1.push D).N := by show h1.nx < ω1.N + 1; rw [r1.nx]; omega
    have hD' : (ω1.push D).ι h1.nx = D := by rw [r1.nx, push_at]
    have sl1 : SlAt Γ (ω1.push D) (wipeS S vs) (L2.wipe σ vs) := (sl.ex (e1.trans x1)).wipe vs
    have k2 : OkR Γ (ω1.push D) WN [] (loopC w b tt fe h1.nx (wipeS S vs) n 0 (h1.push (.lst []))) fun ω' _ h' H' => Q (.ref D) H' := by
      refine OkR.pur (W := W) (σ := σ) (OkR.step (k1.ex x1) fun ω2 _ h2 H2 e2 r3 k3 => ?_)
      exact k3.here r3 _ ⟨Nat.lt_of_lt_of_le hN e2.n, by rw [e2.i _ hN, hD']⟩
    clear k1
    refine ⟨fun i m H' => ∃ ω' h', Ext (ω1.push D) ω' ∧ Rp Γ ω' h' H' ∧ OkR Γ ω' WN [] (loopC w b tt fe h1.nx (wipeS S vs) m i h') fun ω2 _ _ H2 => Q (.ref D) H2, ⟨n, ω1.push D, _, Ext.refl _, r2, k2⟩, ?_⟩
    rintro i m H' ⟨ω', h', e', r', k'⟩
    cases m with
    | zero => exact k'.elim
    | succ m =>
      obtain ⟨w1, w2⟩ := wk ω' i h' H' (x1.trans e') r'
      unfold loopC at k'
      split at k'
      · exact k'.elim
      · rename_i q
        exact .inl ⟨w1 q, k'.here r'⟩
      · rename_i d q
        obtain ⟨go, yl⟩ := w2 d q
        split at k'
        · exact k'.elim
        · rename_i S1 hb
          refine .inr ⟨go, fun H' => ∃ ω' h', Ext (ω1.push D) ω' ∧ Rp Γ ω' h' H' ∧ OkR Γ ω' WN [] (loopC w b tt fe h1.nx (wipeS S vs) m (i + 1) h') fun ω2 _ _ H2 => Q (.ref D) H2, fun H' z => ⟨m, Nat.lt_succ_self m, z⟩, fun x H2 y => ?_⟩
          obtain ⟨ω2, e2, r2, hat⟩ := yl x H2 y
          refine ⟨ω2, wipeS S vs, h', d, S1, sl1.ex (e'.trans e2), r2, hat, hb, fun σ2 sl2 ag => ⟨?_, ω2, S1, h', sl2, r2, OkR.noW (OkR.step (k'.ex e2) fun ω3 c h3 H3 e3 r3 k3 => ?_)⟩⟩
          · exact Mi.wipe_agree (Mi.agree_wipe.trans (ag.mono hi))
          · cases c with
            | false =>
              rw [if_neg Bool.false_ne_true]
              exact ⟨ω3, h3, e'.trans (e2.trans e3), r3, k3⟩
            | true =>
              rw [if_pos rfl]
              refine ⟨ω3, S1, h3, sl2.ex e3, r3, OkR.noW (OkR.step k3 fun ω4 y h4 H4 e4 r4 k4 v hv => ?_)⟩
              have ee := e'.trans (e2.trans (e3.trans e4))
              have hn4 : h1.nx < ω4.N := Nat.lt_of_lt_of_le hN ee.n
              have hι : ω4.ι h1.nx = D := by rw [ee.i _ hN, hD']
              split at k4
              · rename_i acc ha
                split at k4
                · rename_i hlen
                  obtain ⟨xs, hxs, hat'⟩ := lstAt_at r4 hn4 ha
                  rw [hι] at hxs
                  refine ⟨xs, hxs, by rw [hat'.len]; exact Evl.sz_lt hlen, ω4, _, ee, ?_, k4⟩
                  have := r4.write (o := .lst (xs ++ [v])) (c := .lst (acc ++ [y])) hn4 (lst_get ha) rfl ⟨_, upd_same, hat'.append (Ats.one hv)⟩
                  rw [hι] at this
                  exact this
                · exact k4.elim
              · exact k4.elim
  · exact k1.elim
variable {elt iter : Expr} {ifs : List Expr} {scope : Scope} {own : List (Str × Nat)} {spos py : Pos} {g : If} {b : Bf} {tt : Tf} {fe : Ef} {is : List Nat} {n : Nat}
def DTs (X : Cx) (Γ : Gm) (W : WX) (ifs : List Expr) (tt : Tf) : Prop := PTs X ifs (tT Γ W tt)
theorem dts_nil : DTs X Γ W [] gYes := ⟨fun pins s σ H Q I ⟨ω, S, h, sl, r, k⟩ => (pts_nil (X := X)).run pins s σ H Q I (k.here r)⟩
theorem dts_one {c : Expr} (h : DT X Γ W c tt) : DTs X Γ W [c] tt := pts_one h
theorem de_lc (hc : X.calm = true) (hN : X.N.Nodup) (hi : DI X Γ W tg iter g) (ok : BlkOk X.N X.env.scope scope own) (hsub : ∀ i ∈ is, i ∈ own.map (·.2))
    (hg : ∀ (s : Shared) (H : Hp) (C : Addr) (cl : List (Str × Addr)) (fp : List Addr), DG (X.blk s H scope (compEnvC scope cl C X.env) fp) Γ tg is b) (ht : ∀ (s : Shared) (H : Hp) (C : Addr) (cl : List (Str × Addr)) (fp : List Addr), DTs (X.blk s H scope (compEnvC scope cl C X.env) fp) Γ WN ifs tt)
    (he : ∀ (s : Shared) (H : Hp) (C : Addr) (cl : List (Str × Addr)) (fp : List Addr), DE (X.blk s H scope (compEnvC scope cl C X.env) fp) Γ WN elt fe) (hs : ∀ x, foldedSetIterable iter X.env x = pure x) :
    DE X Γ W (.ListComp elt [⟨tg, iter, ifs, 0⟩] scope pos) (fLc n (own.map (·.2)) g b tt fe) := Mi.PE.mono (pe_lc hc hN hi ok hg ht he hs) (lc_le hsub)
theorem ds_setLc {i : Nat} {y : Str} (hc : X.calm = true) (hN : X.N.Nodup) (hy : X.N[i]? = some y) (hyl : X.env.scope.names.lookup y = some .local) (hsw : swapsWith (.ListComp elt [⟨tg, iter, ifs, 0⟩] scope pos) (some (.Name y py)) spos.line X.env = pure true)
    (hi : DI X Γ W tg iter g) (ok : BlkOk X.N X.env.scope scope own) (hsub : ∀ i ∈ is, i ∈ own.map (·.2))
    (hg : ∀ (s : Shared) (H : Hp) (C : Addr) (cl : List (Str × Addr)) (fp : List Addr), DG (X.blk s H scope (compEnvC scope cl C X.env) fp) Γ tg is b) (ht : ∀ (s : Shared) (H : Hp) (C : Addr) (cl : List (Str × Addr)) (fp : List Addr), DTs (X.blk s H scope (compEnvC scope cl C X.env) fp) Γ WN ifs tt)
    (he : ∀ (s : Shared) (H : Hp) (C : Addr) (cl : List (Str × Addr)) (fp : List Addr), DE (X.blk s H scope (compEnvC scope cl C X.env) fp) Γ WN elt fe) (hs : ∀ x, foldedSetIterable iter X.env x = pure x) :
    DS X Γ W (.Assign [.Name y py] (.ListComp elt [⟨tg, iter, ifs, 0⟩] scope pos) spos) (sSet i (fLc n (own.map (·.2)) g b tt fe)) := Mi.PS.mono (ps_setLc hc hN hy hyl hsw hi ok hg ht he hs) fun E σ H ⟨ω, S, h, sl, r, k⟩ => lc_le hsub σ H _ ⟨ω, S, h, sl, r, (k.st sl).mono fun ω1 d h1 H1 e1 r1 k1 v hv => k1.here r1 _ ((sl.ex e1).set hv)⟩
end
end He
end

/-! The mirror layer: own methods asked with values (operators of own classes). -/
namespace Mi
open PySem L2
open PyProof.Rows hiding St
section
variable {X : Cx} {Γ : Ct} {H H' M : Hp}
theorem AtT.mM {d : D} {x : V} {M' : Hp} (h : AtT Γ H M d x) (m : Same M M') : AtT Γ H M' d x := by
  cases d with
  | lst l =>
    obtain ⟨a, xs, e, ha, hs⟩ := h
    exact ⟨a, xs, e, ha, hs.ex m⟩
  | tup l =>
    obtain ⟨a, xs, e, ha, hs⟩ := h
    exact ⟨a, xs, e, ha, hs.ex m⟩
  | dic ks l =>
    obtain ⟨a, kvs, e, ha, hk, hs⟩ := h
    exact ⟨a, kvs, e, ha, hk, hs.ex m⟩
  | obj c l =>
    obtain ⟨a, dx, fs, e, ha, hk, hs⟩ := h
    exact ⟨a, dx, fs, e, ha, hk, hs.ex m⟩
  | _ => exact h
/-- all that stands in H may be taken for shared, for a while -/
theorem AtT.share {d : D} {x : V} (s : Same M H) (h : AtT Γ H M d x) : At Γ H d x := h.at_ s
theorem rep0 : RepM Γ ⟨H, H, fun _ => none⟩ H [] [] [] H :=
  ⟨rfl, fun i s h => by simp at h, Same.refl H, fun a o h _ => h, Same.refl H, fun a o h => .inl h, fun p hp => by simp at hp, fun i s v h => by simp at h, .nil, fun i j s s' v _ h => by simp at h, fun p hp => by simp at hp⟩
/-- a method with the values vs, that answers a truth value -/
theorem spD_bl {G : Gf} {ds : List D} {vs : List V} {b : Bool} {S' : List Sl} {Q : VK} (h : Ats Γ H ds vs) (hG : callG G (ds.map .va) [] = .ok (.va (.bl b), S')) (k : ∀ H', Same H H' → Q (.bl b) H') : spD Γ G vs H Q (fun _ _ _ => False) := by
  have q := callG_ok (W := WF) (σ := []) (Q := Q) (rep0 (Γ := Γ) (H := H)) (ArgsAt.vals h) (G := G) (by
    rw [hG]
    intro v H1 ⟨M1, R⟩
    obtain ⟨x, ex, hx⟩ := R.allT _ List.mem_cons_self
    cases ex
    obtain rfl : v = .bl b := hx
    exact k H1 fun a o ha => R.frm a o ha fun i z => by cases z)
  exact q
/-- x == y by an own __eq__ of the class number c -/
structure EqO (X : Cx) (Γ : Ct) (c n k : Nat) (G : Gf) : Prop where
  ex : ∃ (f : Addr) (fd : FuncData) (ps : List Str), FnOk X.prog X.w X.K X.mg X.base (L2.CX X.prog X.w) k f fd ps (spD Γ G) ∧ PySem.W.findIn X.K (.ref (Γ.cls c)) "__eq__" = some (some (.ref f)) ∧ PySem.W.isFn X.K (.ref f) = true ∧ Binds X.K fd ps []
  ty : TyF Γ X.K n
  nf : ∀ d, known n d = true → PySem.W.notFirst X.K (Γ.cls c) (tyD Γ d) = true
def blR : Rs (Sl × List Sl) → Option Bool
  | .ok (.va (.bl b), _) => some b
  | _ => none
def sEqO (c n : Nat) (G : Gf) (d e : D) : Option Sl := if (isObj c d && known n e) = true then (blR (callG G [.va d, .va e] [])).map fun b => .va (.bl b) else none
theorem blR_is {r : Rs (Sl × List Sl)} {b : Bool} (h : blR r = some b) : ∃ S', r = .ok (.va (.bl b), S') := by
  unfold blR at h
  split at h
  · cases h
    exact ⟨_, rfl⟩
  · cases h
theorem od_eqO {c n k : Nat} {G : Gf} (E1 : EqO X Γ c n k G) (hr : Room k X.A) : OpD X Γ (compareOp .Eq) (sEqO c n G) := by
  obtain ⟨f, fd, ps, F1, h1, h2, h3⟩ := E1.ex
  refine ⟨_, Fu.op_own (C := Γ.cls c) (op := .Eq) F1 hr h1 h2 h3 passesF (fun _ _ => rfl), fun H M x y d e r Q s hx hy he q => ?_⟩
  unfold sEqO at he
  split at he
  · rename_i hk
    rw [Bool.and_eq_true] at hk
    obtain ⟨b, hb, rfl⟩ := Option.map_eq_some_iff.mp he
    obtain ⟨S', hS⟩ := blR_is hb
    have ax := hx.at_ s
    have ay := hy.at_ s
    obtain ⟨a, dx, fs, rfl, ha, _⟩ := isObj_at ax hk.1 (Same.refl H)
    refine ⟨a, dx, fs, tyD Γ e, rfl, ha, ty_at E1.ty hy hk.2, E1.nf e hk.2, spD_bl (ds := [d, e]) ⟨_, _, rfl, ax, _, _, rfl, ay, rfl⟩ hS fun H' e' => q _ _ (post_bl s e')⟩
  · cases he
/-- a callee whose promise lets nothing out, run at another place of the same frame -/
theorem run_atX {A : Around} {k : Nat} {f : Addr} {fd : FuncData} {ps : List Str} {sp : Sp} {pins : List (Addr × Obj)} {σ : St} {s : Shared} {Q : VK} {us : List Value} {vs : List V} (F1 : FnOk X.prog X.w X.K X.mg X.base (L2.CX X.prog X.w) k f fd ps sp)
    (hr : Room k A) (hf : A.frames = some X.stack) (hb : Binds X.K fd ps []) (I : Inv X pins σ H s) (r : Vals vs us) (h : sp vs H Q (fun _ _ _ => False)) : wpAny (model X.prog X.w) A (call (.ref f) us) (EP X pins σ Q) X.xe s := by
  have e := I.env0
  have b := hb s us I.kIn (by rw [List.append_nil, ← r.length]; exact F1.len _ _ _ _ h)
  rw [List.append_nil] at b
  refine wpAny_call (codeAny_mono (F1.run A X.stack s H ⟨us, []⟩ us vs Q _ hr ⟨hf, e.mod, e.bs, e.bsz, e.funs, e.frf, e.hok, e.bare⟩ b r h) fun z s' hq => ?_)
  cases z with
  | error e => exact passesF pins σ H s e s' I hq
  | ok fl =>
    cases fl with
    | ret u => exact I.after hq
    | next => exact False.elim hq
    | brk => exact False.elim hq
    | cont => exact False.elim hq
def rNeO (K : PySem.W.Frag) (C : Addr) (sp : Sp) : R2 := fun x y H Q => ∃ a dx fs t, x = .ref a ∧ H a = some (.ins C dx fs) ∧ TyX K H y t ∧ PySem.W.notFirst K C t = true ∧ sp [.ref a, y] H (fun v H' => ∃ c, v = .bl c ∧ Q (.bl (!c)) H') (fun _ _ _ => False)
theorem op_neO {C : Addr} {k : Nat} {f : Addr} {fd : FuncData} {ps : List Str} {sp : Sp} (F1 : FnOk X.prog X.w X.K X.mg X.base (L2.CX X.prog X.w) k f fd ps sp) (hr : Room (k + 1) X.A) (hm : PySem.W.mroIn X.K C (.type "object") = some true) (hne : PySem.W.findIn X.K (.ref C) "__ne__" = some (some (.builtin "object.__ne__")))
    (hs : PySem.W.findIn X.K (.ref C) "__eq__" = some (some (.ref f))) (hf : PySem.W.isFn X.K (.ref f) = true) (hb : Binds X.K fd ps []) : OpR X (compareOp .NotEq) (rNeO X.K C sp) := by
  intro pins s σ H x y u v Q I rx ry h
  obtain ⟨a, dx, fs, t, rfl, ha, ty, hn, q⟩ := h
  obtain rfl : u = Value.ref a := rx
  obtain ⟨od, J⟩ := Fu.inst_of I ha
  obtain ⟨P, Z, p, _⟩ := kit_of I ry ty
  show wpAny _ _ (richCompare .NotEq (.ref a) v) _ _ _
  refine PySem.W.fu_ne (by have := hr.un; show X.A.units + 1 < cLine; omega) I.kIn J (Z.ty _ _ I.kIn p) hn hm hne hs hf ?_
  refine thn (run_atX (A := X.A.in1) (us := [.ref a, v]) (vs := [.ref a, y]) F1 hr.in1 I.ok.frames hb I (.cons rfl (.cons ry .nil)) q) fun z s' hh => ?_
  obtain ⟨v', H', I', rv, c, rfl, q'⟩ := hh
  obtain rfl : z = Value.bool c := rv
  exact ⟨c, rfl, .bl (!c), H', I', rfl, q'⟩
def sNeO (c n : Nat) (G : Gf) (d e : D) : Option Sl := if (isObj c d && known n e) = true then (blR (callG G [.va d, .va e] [])).map fun b => .va (.bl !b) else none
theorem od_neO {c n k : Nat} {G : Gf} (E1 : EqO X Γ c n k G) (hm : PySem.W.mroIn X.K (Γ.cls c) (.type "object") = some true) (hne : PySem.W.findIn X.K (.ref (Γ.cls c)) "__ne__" = some (some (.builtin "object.__ne__"))) (hr : Room (k + 1) X.A) : OpD X Γ (compareOp .NotEq) (sNeO c n G) := by
  obtain ⟨f, fd, ps, F1, h1, h2, h3⟩ := E1.ex
  refine ⟨_, op_neO (C := Γ.cls c) F1 hr hm hne h1 h2 h3, fun H M x y d e r Q s hx hy he q => ?_⟩
  unfold sNeO at he
  split at he
  · rename_i hk
    rw [Bool.and_eq_true] at hk
    obtain ⟨b, hb, rfl⟩ := Option.map_eq_some_iff.mp he
    obtain ⟨S', hS⟩ := blR_is hb
    have ax := hx.at_ s
    have ay := hy.at_ s
    obtain ⟨a, dx, fs, rfl, ha, _⟩ := isObj_at ax hk.1 (Same.refl H)
    exact ⟨a, dx, fs, tyD Γ e, rfl, ha, ty_at E1.ty hy hk.2, E1.nf e hk.2, spD_bl (ds := [d, e]) ⟨_, _, rfl, ax, _, _, rfl, ay, rfl⟩ hS fun H' e' => ⟨b, rfl, q _ _ (post_bl s e')⟩⟩
  · cases he
end
end Mi

/-! The mirror layer: one operator of two kinds; own __contains__, __len__. -/
namespace Mi
open PySem L2
open PyProof.Rows hiding St
def orS (s1 s2 : D → D → Option Sl) (d e : D) : Option Sl := match s1 d e with
  | some r => some r
  | none => s2 d e
section
variable {X : Cx} {Γ : Ct}
theorem OpD.or {f : Value → Value → Sem Value} {s1 s2 : D → D → Option Sl} (h1 : OpD X Γ f s1) (h2 : OpD X Γ f s2) : OpD X Γ f (orS s1 s2) := by
  obtain ⟨R1, o1, k1⟩ := h1
  obtain ⟨R2, o2, k2⟩ := h2
  refine ⟨_, o1.or o2, fun H M x y d e r Q s hx hy he q => ?_⟩
  unfold orS at he
  split at he
  · rename_i r' hr
    cases he
    exact .inl (k1 H M x y d e _ Q s hx hy hr q)
  · exact .inr (k2 H M x y d e r Q s hx hy he q)
/-- an own method of the class number c that is asked with values and answers a truth value -/
structure AskO (X : Cx) (Γ : Ct) (c k : Nat) (m : Str) (G : Gf) : Prop where
  ex : ∃ (f : Addr) (fd : FuncData) (ps : List Str), FnOk X.prog X.w X.K X.mg X.base (L2.CX X.prog X.w) k f fd ps (spD Γ G) ∧ PySem.W.findIn X.K (.ref (Γ.cls c)) m = some (some (.ref f)) ∧ PySem.W.isFn X.K (.ref f) = true ∧ Binds X.K fd ps []
def rInO (C : Addr) (neg : Bool) (sp : Sp) : R2 := fun x y H Q => ∃ a dx fs, y = .ref a ∧ H a = some (.ins C dx fs) ∧ sp [.ref a, x] H (fun v H' => ∃ c, v = .bl c ∧ Q (.bl (if neg then !c else c)) H') (fun _ _ _ => False)
theorem op_inO {C : Addr} {k : Nat} {f : Addr} {fd : FuncData} {ps : List Str} {sp : Sp} (F1 : FnOk X.prog X.w X.K X.mg X.base (L2.CX X.prog X.w) k f fd ps sp) (hr : Room k X.A)
    (hs : PySem.W.findIn X.K (.ref C) "__contains__" = some (some (.ref f))) (hf : PySem.W.isFn X.K (.ref f) = true) (hb : Binds X.K fd ps []) : OpR X (compareOp .In) (rInO C false sp) := by
  intro pins s σ H x y u v Q I rx ry h
  obtain ⟨a, dx, fs, rfl, ha, q⟩ := h
  obtain rfl : v = Value.ref a := ry
  obtain ⟨od, J⟩ := Fu.inst_of I ha
  obtain ⟨m, hF⟩ := I.fr
  refine PySem.W.in_K hF I.ok.mod.kin J hs hf ?_
  refine thn (run_atX (A := X.A) (us := [.ref a, u]) (vs := [.ref a, x]) F1 hr I.ok.frames hb I (.cons rfl (.cons rx .nil)) q) fun z s' hh => ?_
  obtain ⟨v', H', I', rv, c, rfl, q'⟩ := hh
  obtain rfl : z = Value.bool c := rv
  exact wpAny_truthy_bool ⟨.bl c, H', I', rfl, q'⟩
def sInO (c : Nat) (G : Gf) (d e : D) : Option Sl := if isObj c e = true then (blR (callG G [.va e, .va d] [])).map fun b => .va (.bl b) else none
theorem od_inO {c k : Nat} {G : Gf} (E1 : AskO X Γ c k "__contains__" G) (hr : Room k X.A) : OpD X Γ (compareOp .In) (sInO c G) := by
  obtain ⟨f, fd, ps, F1, h1, h2, h3⟩ := E1.ex
  refine ⟨_, op_inO (C := Γ.cls c) F1 hr h1 h2 h3, fun H M x y d e r Q s hx hy he q => ?_⟩
  unfold sInO at he
  split at he
  · rename_i hk
    obtain ⟨b, hb, rfl⟩ := Option.map_eq_some_iff.mp he
    obtain ⟨S', hS⟩ := blR_is hb
    have ax := hx.at_ s
    have ay := hy.at_ s
    obtain ⟨a, dx, fs, rfl, ha, _⟩ := isObj_at ay hk (Same.refl H)
    exact ⟨a, dx, fs, rfl, ha, spD_bl (ds := [e, d]) ⟨_, _, rfl, ay, _, _, rfl, ax, rfl⟩ hS fun H' e' => ⟨b, rfl, q _ _ (post_bl s e')⟩⟩
  · cases he
/-- .. that answers a flat thing -/
theorem spD_flat {G : Gf} {H : Hp} {ds : List D} {vs : List V} {z : D} {S' : List Sl} {Q : VK} (h : Ats Γ H ds vs) (hG : callG G (ds.map .va) [] = .ok (.va z, S')) (f : flatD z = true) (k : ∀ H', Same H H' → Q (toV z) H') : spD Γ G vs H Q (fun _ _ _ => False) := by
  have q := callG_ok (W := WF) (σ := []) (Q := Q) (rep0 (Γ := Γ) (H := H)) (ArgsAt.vals h) (G := G) (by
    rw [hG]
    intro v H1 ⟨M1, R⟩
    obtain ⟨x, ex, hx⟩ := R.allT _ List.mem_cons_self
    cases ex
    rw [flat_atM hx f]
    exact k H1 fun a o ha => R.frm a o ha fun i z => by cases z)
  exact q
theorem CaD.or {f : Value} {s1 s2 : D → Option Sl} (h1 : CaD X Γ f s1) (h2 : CaD X Γ f s2) : CaD X Γ f (fun d => match s1 d with | some r => some r | none => s2 d) := by
  obtain ⟨R1, o1, k1⟩ := h1
  obtain ⟨R2, o2, k2⟩ := h2
  refine ⟨fun xs H Q => R1 xs H Q ∨ R2 xs H Q, fun pins s σ H xs us Q I r h => h.elim (o1 pins s σ H xs us Q I r) (o2 pins s σ H xs us Q I r), fun H M x d r Q s hx he q => ?_⟩
  dsimp only at he
  split at he
  · rename_i r' hr
    cases he
    exact .inl (k1 H M x d _ Q s hx hr q)
  · exact .inr (k2 H M x d r Q s hx he q)
def inR : Rs (Sl × List Sl) → Option Int
  | .ok (.va (.int i), _) => some i
  | _ => none
theorem inR_is {r : Rs (Sl × List Sl)} {i : Int} (h : inR r = some i) : ∃ S', r = .ok (.va (.int i), S') := by
  unfold inR at h
  split at h
  · cases h
    exact ⟨_, rfl⟩
  · cases h
def sLenO (c : Nat) (G : Gf) (d : D) : Option Sl := if isObj c d = true then (inR (callG G [.va d] [])).bind fun i => if 0 ≤ i ∧ i < 2 ^ 62 then some (.va (.int i)) else none else none
/-- len(x) by an own __len__ -/
theorem ca_lenO {c k : Nat} {G : Gf} (E1 : AskO X Γ c k "__len__" G) (hr : Room (k + 1) X.A) : CaD X Γ (.builtin "len") (sLenO c G) := by
  obtain ⟨f, fd, ps, F1, h1, h2, h3⟩ := E1.ex
  refine ⟨fun xs H Q => ∃ a dx fs, xs = [.ref a] ∧ H a = some (.ins (Γ.cls c) dx fs) ∧ spD Γ G [.ref a] H (fun v H' => ∃ i, v = .int i ∧ (0 ≤ i ∧ i < 2 ^ 62) ∧ Q (.int i) H') (fun _ _ _ => False), ?_, fun H M x d r Q s hx he q => ?_⟩
  · intro pins s σ H xs us Q I r h
    obtain ⟨a, dx, fs, rfl, ha, q⟩ := h
    obtain ⟨u, rfl, ru⟩ := vals1 r
    obtain rfl : u = Value.ref a := ru
    obtain ⟨od, J⟩ := Fu.inst_of I ha
    obtain ⟨m, hF⟩ := I.fr
    refine PySem.W.len_K hF I.ok.mod.kin J h1 h2 ?_
    refine thn (run_atX (A := X.A.in1) (us := [.ref a]) (vs := [.ref a]) F1 hr.in1 I.ok.frames h3 I (.cons rfl .nil) q) fun z s' hh => ?_
    obtain ⟨v', H', I', rv, i, rfl, hi, q'⟩ := hh
    obtain ⟨t, rfl⟩ := rv
    exact ⟨⟨hi.1, by omega⟩, .int i, H', I'.tok _, ⟨_, rfl⟩, q'⟩
  · unfold sLenO at he
    split at he
    · rename_i hk
      obtain ⟨i, hb, he⟩ := Option.bind_eq_some_iff.mp he
      split at he
      · rename_i hi
        cases he
        obtain ⟨S', hS⟩ := inR_is hb
        have ax := hx.at_ s
        obtain ⟨a, dx, fs, rfl, ha, _⟩ := isObj_at ax hk (Same.refl H)
        refine ⟨a, dx, fs, rfl, ha, spD_flat (ds := [d]) ⟨_, _, rfl, ax, rfl⟩ hS rfl fun H' e' => ⟨i, rfl, hi, q _ _ ?_⟩⟩
        exact ⟨M, ⟨e', Same.refl M, fun a o h => e' a o (s a o h), fun _ _ h => .inl h⟩, rfl⟩
      · cases he
    · cases he
end
end Mi

/-! The heap evaluator: built-ins, subscripts, slices, isinstance, methods of lists, Ratio. -/
noncomputable section
namespace He
open PySem L2
open PyProof.Rows hiding St
open Fu (RoomG FnG)
abbrev Sn := List D → Hs → Rs D
section
variable {X : Cx} {Γ : Gm} {W : WX} {e a b c o : Expr} {es : List Expr} {fa fb fc f fo : Ef} {g : Af} {pos p apos cpos : Pos}
/-! ### a built-in called by values -/
def CaH (X : Cx) (Γ : Gm) (f : Value) (sem : Sn) : Prop := ∃ R : List V → Hp → VK → Prop, CallR X f R ∧ ∀ (ω : Wd) (h : Hs) (H : Hp) (vs : List V) (ds : List D) (Q : VK), Rp Γ ω h H → Ats Γ ω ds vs → OkR Γ ω WN [] (sem ds h) (fun ω' z _ H' => ∀ v, At Γ ω' z v → Q v H') → R vs H Q
def snor (s s' : Sn) : Sn := fun ds h => (s ds h).or (s' ds h)
theorem CaH.or {f : Value} {s s' : Sn} (h1 : CaH X Γ f s) (h2 : CaH X Γ f s') : CaH X Γ f (snor s s') := by
  obtain ⟨R, a1, a2⟩ := h1
  obtain ⟨R', b1, b2⟩ := h2
  refine ⟨fun vs H Q => R vs H Q ∨ R' vs H Q, fun pins s σ H xs us Q I rv q => q.elim (a1 pins s σ H xs us Q I rv) (b1 pins s σ H xs us Q I rv), fun ω h H vs ds Q r hx k => ?_⟩
  unfold snor at k
  cases e1 : s ds h with
  | no => rw [e1] at k; exact .inr (b2 ω h H vs ds Q r hx k)
  | ok z h' => rw [e1] at k; exact .inl (a2 ω h H vs ds Q r hx (by rw [e1]; exact k))
  | er z u h' => rw [e1] at k; exact .inl (a2 ω h H vs ds Q r hx (by rw [e1]; exact k))
  | all n f => rw [e1] at k; exact .inl (a2 ω h H vs ds Q r hx (by rw [e1]; exact k))
def fBi (sem : Sn) (g : Af) : Ef := fun S h => (g S h).bind fun ds h1 => pur (sem ds h1)
theorem de_b {x : Str} {id : String} {sem : Sn} (hc : CaH X Γ (.builtin id) sem) (hg : Gl X x) (hm : X.mg x = none) (hv : bootBuiltins x = some (.builtin id)) (ha : DA X Γ W (e :: es) g) (hn : x ≠ "__name__") (hdb : (x == ("__debug__" : Str)) = false)
    (he : starEach (e :: es) X.env = (false, eval e X.env) :: starEach es X.env) (hpl : (backTo pos (starEach es X.env)).any (·.1) = false) : DE X Γ W (.Call (.Name x p) (e :: es) [] pos) (fBi sem g) := by
  obtain ⟨R, h1, h2⟩ := hc
  exact Mi.PE.mono (pe_callB h1 hg hm hv ha hn hdb he hpl) fun σ H Q ⟨ω, S, h, sl, r, k⟩ => ⟨ω, S, h, sl, r, k.step fun ω1 ds h1 H1 e1 r1 k1 vs hs => h2 ω1 h1 H1 vs ds Q r1 hs k1.pur⟩
theorem de_t {x : Str} {id : String} {sem : Sn} (hc : CaH X Γ (.type id) sem) (hg : Gl X x) (hm : X.mg x = none) (hv : bootBuiltins x = some (.type id)) (ha : DA X Γ W (e :: es) g) (hn : x ≠ "__name__") (hdb : (x == ("__debug__" : Str)) = false)
    (he : starEach (e :: es) X.env = (false, eval e X.env) :: starEach es X.env) (hpl : (backTo pos (starEach es X.env)).any (·.1) = false) : DE X Γ W (.Call (.Name x p) (e :: es) [] pos) (fBi sem g) := by
  obtain ⟨R, h1, h2⟩ := hc
  exact Mi.PE.mono (pe_callTy h1 hg hm hv ha hn hdb he hpl) fun σ H Q ⟨ω, S, h, sl, r, k⟩ => ⟨ω, S, h, sl, r, k.step fun ω1 ds h1 H1 e1 r1 k1 vs hs => h2 ω1 h1 H1 vs ds Q r1 hs k1.pur⟩
/-- by the mirror layer: any datum, a flat answer -/
def sn1R (n : Nat) (sem : Mi.D → Option Mi.Sl) : Sn := fun ds h => match ds with
  | [d] => lift h ((rei h n d).bind fun x => (sem x).bind outFl)
  | _ => .no
theorem CaH.rei1 {n : Nat} {f : Value} {sem : Mi.D → Option Mi.Sl} (ho : Mi.CaD X Γ.ct f sem) : CaH X Γ f (sn1R n sem) := by
  obtain ⟨R, h1, h2⟩ := ho
  refine ⟨R, h1, fun ω h H vs ds Q r hx k => ?_⟩
  unfold sn1R at k
  split at k
  · obtain ⟨v, vr, rfl, hd, hx⟩ := hx
    obtain rfl := hx
    obtain ⟨z, hz, k⟩ := k.lift
    obtain ⟨m, e1, hz⟩ := Option.bind_eq_some_iff.mp hz
    obtain ⟨u, e3, hz⟩ := Option.bind_eq_some_iff.mp hz
    refine h2 H H v m u Q (Same.refl H) ((rei_at r e1 hd).top (Same.refl H)) e3 fun v H' p => ?_
    obtain ⟨r', ha⟩ := post_fl r hz p
    exact (k.here r') v ha
  · exact k.elim
def sn1M (sem : Mi.D → Option Mi.Sl) : Sn := fun ds h => match ds with
  | [d] => lift h ((toMi d).bind fun x => (sem x).bind outMi)
  | _ => .no
theorem CaH.mi1 {f : Value} {sem : Mi.D → Option Mi.Sl} (ho : Mi.CaD X Γ.ct f sem) : CaH X Γ f (sn1M sem) := by
  obtain ⟨R, h1, h2⟩ := ho
  refine ⟨R, h1, fun ω h H vs ds Q r hx k => ?_⟩
  unfold sn1M at k
  split at k
  · obtain ⟨v, vr, rfl, hd, hx⟩ := hx
    obtain rfl := hx
    obtain ⟨z, hz, k⟩ := k.lift
    obtain ⟨m, e1, hz⟩ := Option.bind_eq_some_iff.mp hz
    obtain ⟨u, e3, hz⟩ := Option.bind_eq_some_iff.mp hz
    refine h2 H ω.M v m u Q r.sub ((toMi_at e1 hd).top r.sub) e3 fun v H' p => ?_
    obtain ⟨ω', x', r', ha⟩ := post_out r hz p
    exact (k.there x' r') v ha
  · exact k.elim
def sn2M (sem : Mi.D → Mi.D → Option Mi.Sl) : Sn := fun ds h => match ds with
  | [d, e] => lift h ((toMi d).bind fun x => (toMi e).bind fun y => (sem x y).bind outMi)
  | _ => .no
theorem CaH.mi2 {f : Value} {sem : Mi.D → Mi.D → Option Mi.Sl} (ho : Mi.CaD2 X Γ.ct f sem) : CaH X Γ f (sn2M sem) := by
  obtain ⟨R, h1, h2⟩ := ho
  refine ⟨R, h1, fun ω h H vs ds Q r hx k => ?_⟩
  unfold sn2M at k
  split at k
  · obtain ⟨v, vr, rfl, hd, hx⟩ := hx
    obtain ⟨v2, vr2, rfl, hd2, hx⟩ := hx
    obtain rfl := hx
    obtain ⟨z, hz, k⟩ := k.lift
    obtain ⟨m, e1, hz⟩ := Option.bind_eq_some_iff.mp hz
    obtain ⟨m2, e2, hz⟩ := Option.bind_eq_some_iff.mp hz
    obtain ⟨u, e3, hz⟩ := Option.bind_eq_some_iff.mp hz
    refine h2 H ω.M v v2 m m2 u Q r.sub ((toMi_at e1 hd).top r.sub) ((toMi_at e2 hd2).top r.sub) e3 fun v H' p => ?_
    obtain ⟨ω', x', r', ha⟩ := post_out r hz p
    exact (k.there x' r') v ha
  · exact k.elim
/-- len -/
def lenH (h : Hs) : D → Option Nat
  | .str x => if x.length ≤ 100000 then some x.length else none
  | .tup l => some l.length
  | .loc n => match h.get n with
    | some (.lst l) => some l.length
    | some (.dic false ks _) => some ks.length
    | _ => none
  | _ => none
def snLen : Sn := fun ds h => match ds with
  | [d] => lift h ((lenH h d).map fun (n : Nat) => D.int n)
  | _ => .no
theorem ca_len : CaH X Γ (.builtin "len") snLen := by
  refine ⟨_, call_len.or call_lenD, fun ω h H vs ds Q r hx k => ?_⟩
  unfold snLen at k
  split at k
  · rename_i d
    obtain ⟨v, vr, rfl, hd, hx⟩ := hx
    obtain rfl := hx
    obtain ⟨z, hz, k⟩ := k.lift
    obtain ⟨n, hn, rfl⟩ := Option.map_eq_some_iff.mp hz
    cases d with
    | str x =>
      dsimp only [lenH] at hn
      split at hn
      · cases hn
        obtain rfl := hd
        exact .inl ⟨_, _, rfl, ⟨Evl.sz_of (by assumption), rfl⟩, k.here r _ rfl⟩
      · cases hn
    | tup l =>
      cases hn
      obtain ⟨a, xs, rfl, ha, hs⟩ := hd
      refine .inl ⟨_, _, rfl, .inr ⟨xs, SqT.of (r.sub _ _ ha), rfl⟩, ?_⟩
      rw [hs.len]
      exact k.here r _ rfl
    | loc m =>
      obtain ⟨hm, rfl⟩ := hd
      dsimp only [lenH] at hn
      split at hn
      · rename_i l hl
        cases hn
        obtain ⟨xs, ha, hs⟩ := r.at_ hm hl
        refine .inl ⟨_, _, rfl, .inl ⟨xs, SqL.of ha, rfl⟩, ?_⟩
        rw [hs.len]
        exact k.here r _ rfl
      · rename_i ks l hl
        cases hn
        obtain ⟨kvs, ha, hk, hs⟩ := r.at_ hm hl
        refine .inr ⟨_, kvs, rfl, ha, ?_⟩
        have e : kvs.length = ks.length := by rw [← hk, List.length_map]
        rw [e]
        exact k.here r _ rfl
      · cases hn
    | _ => cases hn
  · exact k.elim
/-- list -/
def snList : Sn := fun ds h => match ds with
  | [d] => match seqOf h d with
    | some l => if h.nx < 1000000000 then .ok (.loc h.nx) (h.push (.lst l)) else .no
    | none => .no
  | _ => .no
theorem ca_list : CaH X Γ (.type "list") snList := by
  refine ⟨_, call_list_of, fun ω h H vs ds Q r hx k => ?_⟩
  unfold snList at k
  split at k
  · obtain ⟨v, vr, rfl, hd, hx⟩ := hx
    obtain rfl := hx
    split at k
    · rename_i l hl
      split at k
      · rename_i hnx
        obtain ⟨p, xs, rfl, hp, hs⟩ := seqOf_at (X := X) r hd hl
        refine ⟨p, xs, rfl, hp.symm, fun q hq => ?_⟩
        have x1 := Wd.push_ext ω q
        exact (k.there x1 (r.newC hq hnx (same_new hq) ⟨_, upd_same, hs.ex x1⟩)) _ (new_loc r q)
      · exact k.elim
    · exact k.elim
  · exact k.elim
/-! ### subscripts -/
def atD (h : Hs) (d e : D) : Option D := match e with
  | .int i => match d with
    | .str x => if x.length ≤ 100000 then (atI x.cps.toList i).map fun c => .str ⟨#[c]⟩ else none
    | d => (seqOf h d).bind fun l => atI l i
  | _ => none
def s2ix : S2 := fun d e h => lift h (atD h d e)
theorem atI_at {ω : Wd} {l : List D} {xs : List V} {i : Int} {d : D} (h : Ats Γ ω l xs) (e : atI l i = some d) : ∃ x, atI xs i = some x ∧ At Γ ω d x := by
  unfold atI at e ⊢
  rw [h.len]
  cases e1 : ixN l.length i with
  | none => simp [e1] at e
  | some j =>
    simp only [e1, Option.bind_some] at e ⊢
    exact h.get e
theorem ix_at {ω : Wd} {h : Hs} {H : Hp} {x y : V} {d e z : D} {Q : VK} (r : Rp Γ ω h H) (hx : At Γ ω d x) (hy : At Γ ω e y) (hz : atD h d e = some z) (k : ∀ v, At Γ ω z v → Q v H) : rIx X.K x y H Q := by
  unfold atD at hz
  split at hz
  · rename_i i
    obtain rfl := hy
    split at hz
    · rename_i s
      split at hz
      · rename_i hl
        obtain ⟨c, hc, rfl⟩ := Option.map_eq_some_iff.mp hz
        obtain rfl := hx
        exact .inr (.inr ⟨_, _, c, rfl, rfl, Evl.sz_of hl, hc, k _ rfl⟩)
      · cases hz
    · obtain ⟨l, hl, hz⟩ := Option.bind_eq_some_iff.mp hz
      obtain ⟨p, xs, rfl, hp, hs⟩ := seqOf_at (X := X) r hx hl
      obtain ⟨w, hw, hat⟩ := atI_at hs hz
      rcases hp with hp | hp
      · exact .inr (.inl ⟨p, xs, _, w, rfl, rfl, hp, hw, k w hat⟩)
      · exact .inl ⟨p, xs, _, w, rfl, rfl, hp, hw, k w hat⟩
  · cases hz
theorem de_ix (ha : DE X Γ W a fa) (hb : DE X Γ W b fb) (hs : PlainIx b) : DE X Γ W (.Subscript a b pos) (fB (pS s2ix) fa fb) :=
  Mi.PE.mono (pe_ix ix_seq ha hb hs) (fB_ok fun ω h H x y d e Q r hx hy k => by
    obtain ⟨z, hz, k⟩ := k.lift
    exact ix_at r hx hy hz fun v hv => k.here r v hv)
/-! ### slices -/
abbrev Of := Sls → Hs → Rs (Option Int)
def tO (Γ : Gm) (W : WX) (g : Of) : TO := fun σ H Q => ∃ ω S h, SlAt Γ ω S σ ∧ Rp Γ ω h H ∧ OkR Γ ω W σ (g S h) fun ω' o _ H' => Q o H'
def DO (X : Cx) (Γ : Gm) (W : WX) (e : Option Expr) (g : Of) : Prop := PO X e (tO Γ W g)
def oNo : Of := fun _ h => .ok none h
def oSo (f : Ef) : Of := fun S h => (f S h).bind fun d h1 => match d with
  | .int i => .ok (some i) h1
  | _ => .no
theorem do_none : DO X Γ W none oNo := Mi.PO.mono po_none fun σ H Q ⟨ω, S, h, sl, r, k⟩ => k.here r
theorem do_some (h : DE X Γ W a fa) : DO X Γ W (some a) (oSo fa) := Mi.PO.mono (po_some h) fun σ H Q ⟨ω, S, h, sl, r, k⟩ => ⟨ω, S, h, sl, r, k.step fun ω1 d h1 H1 e1 r1 k1 v hv => by
  split at k1
  · obtain rfl := hv
    exact ⟨_, rfl, k1.here r1⟩
  · exact k1.elim⟩
theorem Ats.cut {ω : Wd} {l : List D} {xs : List V} (h : Ats Γ ω l xs) (lo hi : Option Int) : Ats Γ ω (Mi.cut l lo hi) (cutV xs lo hi) := by
  unfold Mi.cut cutV
  rw [h.len]
  exact (h.drop _).take _
def slD (d : D) (lo hi : Option Int) (h : Hs) : Rs D := match d with
  | .str x => if x.length ≤ 100000 then .ok (.str (cutS x lo hi)) h else .no
  | .loc n => match lstAt h n with
    | some l => if h.nx < 1000000000 then .ok (.loc h.nx) (h.push (.lst (Mi.cut l lo hi))) else .no
    | none => .no
  | _ => .no
def fSl (fa : Ef) (gl gh : Of) : Ef := fun S h => (fa S h).bind fun a h1 => (gl S h1).bind fun lo h2 => (gh S h2).bind fun hi h3 => slD a lo hi h3
theorem de_sl {p2 : Pos} {lo hi : Option Expr} {gl gh : Of} (ha : DE X Γ W a fa) (hl : DO X Γ W lo gl) (hh : DO X Γ W hi gh) : DE X Γ W (.Subscript a (.Slice lo hi none p2) pos) (fSl fa gl gh) :=
  Mi.PE.mono (pe_slice (sl_list.or sl_str) ha hl hh) fun σ H Q ⟨ω, S, h, sl, r, k⟩ => ⟨ω, S, h, sl, r, k.step fun ω1 d h1 H1 e1 r1 k1 x hx => ⟨ω1, S, h1, sl.ex e1, r1, k1.step fun ω2 lo h2 H2 e2 r2 k2 => ⟨ω2, S, h2, sl.ex (e1.trans e2), r2, k2.step fun ω3 hi h3 H3 e3 r3 k3 => by
    have hx3 := hx.ex (e2.trans e3)
    unfold slD at k3
    split at k3
    · split at k3
      · obtain rfl := hx3
        exact .inr ⟨_, rfl, Evl.sz_of (by assumption), k3.here r3 _ rfl⟩
      · exact k3.elim
    · rename_i n
      split at k3
      · rename_i l hl
        split at k3
        · rename_i hnx
          obtain ⟨hn, rfl⟩ := hx3
          obtain ⟨xs, ha, hs⟩ := lstAt_at r3 hn hl
          refine .inl ⟨_, xs, rfl, SqL.of ha, fun q hq => ?_⟩
          have x1 := Wd.push_ext ω3 q
          exact (k3.there x1 (r3.newC hq hnx (same_new hq) ⟨_, upd_same, (hs.cut _ _).ex x1⟩)) _ (new_loc r3 q)
        · exact k3.elim
      · exact k3.elim
    · exact k3.elim⟩⟩⟩
/-! ### isinstance -/
/-- the class of a datum, as a tree of the mirror layer has it -/
def kd (h : Hs) : D → Option Mi.D
  | .non => some .non
  | .bl b => some (.bl b)
  | .int i => some (.int i)
  | .str x => some (.str x)
  | .tup _ => some (.tup [])
  | .rat q => some (.rat q)
  | .loc n => match h.get n with
    | some (.lst _) => some (.lst [])
    | some (.dic false _ _) => some (.dic [] [])
    | some (.ins c _) => some (.obj c [])
    | _ => none
  | .gl _ => none
  | .exc => none
  | .scr => none
  | .kk => none
theorem kd_at {K : PySem.W.Frag} {n : Nat} {ω : Wd} {h : Hs} {H : Hp} {d : D} {m : Mi.D} {v : V} (T : Mi.TyF Γ.ct K n) (r : Rp Γ ω h H) (hx : At Γ ω d v) (e : kd h d = some m) (hk : Mi.known n m = true) : TyX K H v (Mi.tyD Γ.ct m) := by
  cases d with
  | non => cases e; cases (show v = V.non from hx); exact .base .non
  | bl b => cases e; cases (show v = V.bl b from hx); exact .base (.bl b)
  | int i => cases e; cases (show v = V.int i from hx); exact .base (.int i)
  | str x => cases e; cases (show v = V.str x from hx); exact .base (.str x)
  | tup l =>
    cases e
    obtain ⟨a, xs, rfl, ha, _⟩ := hx
    exact .base (.tup (r.sub _ _ ha))
  | rat q =>
    cases e
    obtain ⟨a, dx, rfl, ha⟩ := hx
    exact .base (.ins (r.sub _ _ ha) T.r.cl T.r.ha T.r.hn T.r.htk T.r.hm)
  | gl g => cases e
  | exc => cases e
  | scr => cases e
  | kk => cases e
  | loc k =>
    obtain ⟨hkN, rfl⟩ := hx
    dsimp only [kd] at e
    split at e
    · rename_i l hl
      cases e
      obtain ⟨xs, ha, _⟩ := r.at_ hkN hl
      exact .base (.lst ha)
    · rename_i ks l hl
      cases e
      obtain ⟨xs, ha, _⟩ := r.at_ hkN hl
      exact .base (.dK ha)
    · rename_i c l hl
      cases e
      obtain ⟨dx, fs, ha, _⟩ := r.at_ hkN hl
      have C := T.c c (of_decide_eq_true hk)
      exact .base (.ins ha C.cl C.ha C.hn C.htk C.hm)
    · cases e
def s1isi (n : Nat) (f : Mi.D → Bool) : S1 := fun d h => match kd h d with
  | some m => if Mi.known n m = true then .ok (.bl (f m)) h else .no
  | none => .no
theorem de_isi {n : Nat} {u : Value} {cv : V} {f : Mi.D → Bool} (T : Mi.TyF Γ.ct X.K n) (I : Mi.IsF Γ.ct X.K n u f) (hcv : ClsV cv u) (hm : X.mg "isinstance" = none) (ha : DE X Γ W a fa) (hc : PE X c (tC cv)) (hg : Gl X "isinstance")
    (hs : starEach [a, c] X.env = (false, eval a X.env) :: starEach [c] X.env) (hs2 : starEach [c] X.env = (false, eval c X.env) :: starEach [] X.env) (hpl : (backTo pos (starEach [c] X.env)).any (·.1) = false) : DE X Γ W (.Call (.Name "isinstance" p) [a, c] [] pos) (fU (pS1 (s1isi n f)) fa) := by
  refine Mi.PE.mono (pe_callB call_isi hg hm (by decide +kernel) (pa_cons ha (pa_cons hc pa_nil hs2) hs) (by decide) (by decide) hs hpl) fun σ H Q q => fU_ok (R := fun x H Q => rIsi X.K [x, cv] H Q) (fun ω h H x d Q r hx k => ?_) σ H Q q
  unfold s1isi at k
  split at k
  · rename_i m hm'
    split at k
    · rename_i hk
      exact ⟨x, cv, _, u, _, rfl, hcv, kd_at T r hx hm' hk, I.a m hk, k.here r _ rfl⟩
    · exact k.elim
  · exact k.elim
/-! ### methods of lists -/
abbrev Ml := Hs → List D → List D → Option (D × List D)
def MtLH (X : Cx) (Γ : Gm) (id : String) (sem : Ml) : Prop := ∃ r : V → List V → Hp → VK → Prop, MtR X id r ∧ ∀ (ω : Wd) (h : Hs) (H : Hp) (x : Addr) (xs vs : List V) (l ds : List D) (z : D × List D) (Q : VK),
  Rp Γ ω h H → H x = some (.lst xs) → Ats Γ ω l xs → Ats Γ ω ds vs → sem h l ds = some z → (∀ v ys, At Γ ω z.1 v → Ats Γ ω z.2 ys → Q v (upd H x (.lst ys))) → r (.ref x) vs H Q
def mutAt (sem : Ml) (n : Nat) (ds : List D) (h : Hs) : Rs D := match lstAt h n with
  | some l => match sem h l ds with
    | some z => .ok z.1 (h.put n (.lst z.2))
    | none => .no
  | none => .no
def fMut (sem : Ml) (fo : Ef) (g : Af) : Ef := fun S h => (fo S h).bind fun d h1 => match d with
  | .loc n => match lstAt h1 n with
    | some _ => (g S h1).bind fun ds h2 => mutAt sem n ds h2
    | none => .no
  | _ => .no
theorem mutAt_ok {sem : Ml} {r : V → List V → Hp → VK → Prop} (hr : ∀ (ω : Wd) (h : Hs) (H : Hp) (x : Addr) (xs vs : List V) (l ds : List D) (z : D × List D) (Q : VK),
    Rp Γ ω h H → H x = some (.lst xs) → Ats Γ ω l xs → Ats Γ ω ds vs → sem h l ds = some z → (∀ v ys, At Γ ω z.1 v → Ats Γ ω z.2 ys → Q v (upd H x (.lst ys))) → r (.ref x) vs H Q)
    {ω : Wd} {h : Hs} {H : Hp} {σ : St} {n : Nat} {ds : List D} {vs : List V} {Q : VK} (r0 : Rp Γ ω h H) (hn : n < ω.N) (hs : Ats Γ ω ds vs) (k : OkR Γ ω W σ (mutAt sem n ds h) fun ω' d _ H' => ∀ v, At Γ ω' d v → Q v H') : r (.ref (ω.ι n)) vs H Q := by
  unfold mutAt at k
  split at k
  · rename_i l hl
    split at k
    · rename_i z hz
      obtain ⟨xs, ha, hxs⟩ := lstAt_at r0 hn hl
      exact hr ω h H _ xs vs l ds z Q r0 ha hxs hs hz fun v ys hv hy => k.here (r0.write hn (lst_get hl) rfl ⟨ys, upd_same, hy⟩) v hv
    · exact k.elim
  · exact k.elim
theorem de_mut {name : Str} {id : String} {sem : Ml} (hm : MtLH X Γ id sem) (slot : Slot "list" name id) (hty : typeOf (.builtin id) = pure (.type "method_descriptor")) (ho : DE X Γ W o fo) (ha : DA X Γ W (e :: es) g)
    (hbase : attributeBase o name X.env (eval o X.env) = eval o X.env)
    (hfew : ((backTo cpos (starEach (e :: es) X.env)).all (fun x => !x.1) && (backToKw cpos (keywordEach [] X.env)).all (fun x => x.1.isSome)
      && decide ((e :: es).length + ([] : List Keyword).length + (if ([] : List Keyword).isEmpty then 0 else 1) < 30)) = true)
    (hline : (apos.endLine == cpos.line) = true) (hs : starEach (e :: es) X.env = (false, eval e X.env) :: starEach es X.env) (hplain : (backTo cpos (starEach es X.env)).any (·.1) = false) :
    DE X Γ W (.Call (.Attribute o name apos) (e :: es) [] cpos) (fMut sem fo g) := by
  obtain ⟨r, h1, h2⟩ := hm
  refine Mi.PE.mono (pe_bm PySem.F.plainAttrs_list slot hty h1 ho ha hbase hfew hline hs hplain) fun σ H Q ⟨ω, S, h, sl, r0, k⟩ => ⟨ω, S, h, sl, r0, k.step fun ω1 d h1 H1 e1 r1 k1 x hx => ?_⟩
  split at k1
  · rename_i n
    split at k1
    · rename_i l hl
      have hx0 := hx
      obtain ⟨hn, rfl⟩ := hx0
      obtain ⟨xs, hxs, _⟩ := lstAt_at r1 hn hl
      refine ⟨.inl ⟨rfl, _, SqL.of hxs⟩, ω1, S, h1, sl.ex e1, r1, k1.step fun ω2 ds h2' H2 e2 r2 k2 vs hvs => ?_⟩
      rw [← e2.i n hn]
      exact mutAt_ok h2 r2 (Nat.lt_of_lt_of_le hn e2.n) hvs k2
    · exact k1.elim
  · exact k1.elim
theorem de_mut0 {name : Str} {id : String} {sem : Ml} (hm : MtLH X Γ id sem) (slot : Slot "list" name id) (hty : typeOf (.builtin id) = pure (.type "method_descriptor")) (ho : DE X Γ W o fo)
    (hbase : attributeBase o name X.env (eval o X.env) = eval o X.env) (hline : (apos.endLine == cpos.line) = true) : DE X Γ W (.Call (.Attribute o name apos) [] [] cpos) (fMut sem fo aNil) := by
  obtain ⟨r, h1, h2⟩ := hm
  refine Mi.PE.mono (pe_bm0 PySem.F.plainAttrs_list slot hty h1 ho hbase hline) fun σ H Q ⟨ω, S, h, sl, r0, k⟩ => ⟨ω, S, h, sl, r0, k.step fun ω1 d h1 H1 e1 r1 k1 x hx => ?_⟩
  split at k1
  · rename_i n
    split at k1
    · rename_i l hl
      have hx0 := hx
      obtain ⟨hn, rfl⟩ := hx0
      obtain ⟨xs, hxs, _⟩ := lstAt_at r1 hn hl
      exact ⟨.inl ⟨rfl, _, SqL.of hxs⟩, mutAt_ok (ds := []) (vs := []) h2 r1 hn rfl k1⟩
    · exact k1.elim
  · exact k1.elim
def mApp : Ml := fun _ l ds => match ds with
  | [d] => if l.length < 100000 then some (.non, l ++ [d]) else none
  | _ => none
def mExt : Ml := fun h l ds => match ds with
  | [.loc m] => (lstAt h m).bind fun l' => if l.length + l'.length < 100000 then some (.non, l ++ l') else none
  | _ => none
def mClr : Ml := fun _ l ds => match ds with
  | [] => some (.non, [])
  | _ => none
def mPop : Ml := fun _ l ds => match ds with
  | [] => l.getLast?.map fun d => (d, l.dropLast)
  | _ => none
def mPopAt : Ml := fun _ l ds => match ds with
  | [.int i] => if i.natAbs ≤ 1000000 then (seqIndex? i l.length).bind fun k => l[k]?.map fun d => (d, l.eraseIdx k) else none
  | _ => none
def mIns : Ml := fun _ l ds => match ds with
  | [.int i, d] => if l.length < 100000 ∧ 0 ≤ i ∧ i ≤ 1000000 then some (.non, l.take i.toNat ++ [d] ++ l.drop i.toNat) else none
  | _ => none
theorem mt_app : MtLH X Γ "list.append" mApp := ⟨rAppend, mt_append, fun ω h H x xs vs l ds z Q r ha hA hd e k => by
  unfold mApp at e
  split at e
  · split at e
    · cases e
      obtain ⟨v, vr, rfl, hv, hr⟩ := hd
      obtain rfl := hr
      have := hA.len
      have := Mi.big
      exact ⟨x, xs, v, rfl, rfl, ha, by omega, k .non _ rfl (hA.append (Ats.one hv))⟩
    · cases e
  · cases e⟩
theorem mt_ext : MtLH X Γ "list.extend" mExt := ⟨rExtend, mt_extend, fun ω h H x xs vs l ds z Q r ha hA hd e k => by
  unfold mExt at e
  split at e
  · obtain ⟨l', hl', e⟩ := Option.bind_eq_some_iff.mp e
    split at e
    · cases e
      obtain ⟨v, vr, rfl, hv, hr⟩ := hd
      obtain rfl := hr
      obtain ⟨hm, rfl⟩ := hv
      obtain ⟨ys, hb, hB⟩ := lstAt_at r hm hl'
      have := hA.len
      have := hB.len
      have := Mi.big
      exact ⟨x, _, xs, ys, rfl, rfl, ha, hb, by omega, k .non _ rfl (hA.append hB)⟩
    · cases e
  · cases e⟩
theorem mt_clr : MtLH X Γ "list.clear" mClr := ⟨rClear, mt_clear, fun ω h H x xs vs l ds z Q r ha hA hd e k => by
  unfold mClr at e
  split at e
  · cases e
    obtain rfl := hd
    exact ⟨x, xs, rfl, rfl, ha, k .non _ rfl rfl⟩
  · cases e⟩
theorem Ats.eraseIdx {ω : Wd} : ∀ {l : List D} {xs : List V} (i : Nat), Ats Γ ω l xs → Ats Γ ω (l.eraseIdx i) (xs.eraseIdx i)
  | [], _, i, h => by
    obtain rfl := h
    simp [Ats]
  | d :: l, _, 0, h => by
    obtain ⟨x, r, rfl, _, h2⟩ := h
    exact h2
  | d :: l, _, i + 1, h => by
    obtain ⟨x, r, rfl, h1, h2⟩ := h
    exact ⟨x, _, rfl, h1, h2.eraseIdx i⟩
theorem mt_po : MtLH X Γ "list.pop" mPop := ⟨rPop, L2.mt_pop, fun ω h H x xs vs l ds z Q r ha hA hd e k => by
  unfold mPop at e
  split at e
  · obtain ⟨d, hl, rfl⟩ := Option.map_eq_some_iff.mp e
    obtain rfl := hd
    rw [List.getLast?_eq_getElem?] at hl
    obtain ⟨v, hv, hat⟩ := hA.get hl
    refine ⟨x, xs, v, rfl, rfl, ha, by rw [hA.len]; exact hv, k v _ hat ?_⟩
    have : xs.dropLast = xs.take (xs.length - 1) := List.dropLast_eq_take
    rw [this, List.dropLast_eq_take, hA.len]
    exact hA.take _
  · cases e⟩
theorem mt_poAt : MtLH X Γ "list.pop" mPopAt := ⟨rPopAt, L2.mt_popAt, fun ω h H x xs vs l ds z Q r ha hA hd e k => by
  unfold mPopAt at e
  split at e
  · split at e
    · rename_i i hi
      obtain ⟨j, hj, e⟩ := Option.bind_eq_some_iff.mp e
      obtain ⟨d, hl, rfl⟩ := Option.map_eq_some_iff.mp e
      obtain ⟨v, vr, rfl, hv, hr⟩ := hd
      obtain rfl := hr
      obtain rfl := hv
      obtain ⟨w, hw, hat⟩ := hA.get hl
      exact ⟨x, xs, i, j, w, rfl, rfl, ha, by omega, by omega, by rw [hA.len]; exact hj, hw, k w _ hat (hA.eraseIdx j)⟩
    · cases e
  · cases e⟩
theorem mt_ins : MtLH X Γ "list.insert" mIns := ⟨_, L2.mt_insert, fun ω h H x xs vs l ds z Q r ha hA hd e k => by
  unfold mIns at e
  split at e
  · split at e
    · rename_i i d hi
      cases e
      obtain ⟨v, vr, rfl, hv, hr⟩ := hd
      obtain ⟨w, wr, rfl, hw, hr⟩ := hr
      obtain rfl := hr
      obtain rfl := hv
      have := hA.len
      have := Mi.big
      exact ⟨x, xs, i, w, rfl, rfl, ha, by omega, by omega, by omega, k .non _ rfl (((hA.take _).append (Ats.one hw)).append (hA.drop _))⟩
    · cases e
  · cases e⟩
/-! ### is, is not of bools -/
def s2isB (neg : Bool) : S2 := fun d e h => match d, e with
  | .bl a, .bl b => .ok (.bl (if neg then !decide (a = b) else decide (a = b))) h
  | _, _ => .no
theorem od_isB : OpH X Γ (compareOp .Is) (s2isB false) := ⟨_, op_isBl, fun ω h H x y d e Q r hx hy k => by
  unfold s2isB at k
  split at k
  · obtain rfl := hx
    obtain rfl := hy
    exact ⟨_, _, rfl, rfl, k.here r _ rfl⟩
  · exact k.elim⟩
theorem od_notB : OpH X Γ (compareOp .IsNot) (s2isB true) := ⟨_, op_notBl, fun ω h H x y d e Q r hx hy k => by
  unfold s2isB at k
  split at k
  · obtain rfl := hx
    obtain rfl := hy
    exact ⟨_, _, rfl, rfl, k.here r _ rfl⟩
  · exact k.elim⟩
/-- is None, is not None -/
def isNon : D → Bool
  | .non => true
  | _ => false
theorem isNon_at {ω : Wd} {d : D} {x : V} (h : At Γ ω d x) : decide (x = V.non) = isNon d := by
  cases d with
  | non => obtain rfl := h; rfl
  | bl b => obtain rfl := h; rfl
  | int i => obtain rfl := h; rfl
  | str y => obtain rfl := h; rfl
  | tup l => obtain ⟨a, xs, rfl, _⟩ := h; rfl
  | rat q => obtain ⟨a, xs, rfl, _⟩ := h; rfl
  | loc n => obtain ⟨_, rfl⟩ := h; rfl
  | gl g => obtain rfl := h; rfl
  | exc => exact h.elim
  | scr => obtain ⟨a, ns, rfl, _⟩ := h; rfl
  | kk => obtain ⟨k, _, rfl⟩ := h; rfl
def s2isN (neg : Bool) : S2 := fun d e h => match e with
  | .non => .ok (.bl (if neg then !isNon d else isNon d)) h
  | _ => .no
theorem od_isN : OpH X Γ (compareOp .Is) (s2isN false) := ⟨_, op_isN, fun ω h H x y d e Q r hx hy k => by
  unfold s2isN at k
  split at k
  · obtain rfl := hy
    refine ⟨rfl, ?_⟩
    rw [isNon_at hx]
    exact k.here r _ rfl
  · exact k.elim⟩
theorem od_notN : OpH X Γ (compareOp .IsNot) (s2isN true) := ⟨_, op_notN, fun ω h H x y d e Q r hx hy k => by
  unfold s2isN at k
  split at k
  · obtain rfl := hy
    refine ⟨rfl, ?_⟩
    rw [isNon_at hx]
    exact k.here r _ rfl
  · exact k.elim⟩
end
end He
end

/-! Own errors over any of the built-in ones: made, held as values, read, asked for their kinds; raised. -/
namespace Fu
open PySem L2 PySem.HandSPX
open PyProof.Rows hiding St
/-- what a built-in base says: its maker B (newId), the mro behind the own classes -/
structure BaseY (newId : String) (tail : List Value) : Prop where
  f : ∃ B initId bmB, ExcBaseFacts B newId initId bmB ∧ tail.contains (.type B) = true
  na : tail.contains (.type "AttributeError") = false
  nn : tail.contains (.type "NameError") = false
  pass : ∀ self : Value, refuseLoop self "__setattr__" tail = pure ()
  obj : tail.contains (.type "object") = true
abbrev tailV : List Value := [.type "ValueError", .type "Exception", .type "BaseException", .type "object"]
abbrev tailR : List Value := [.type "RuntimeError", .type "Exception", .type "BaseException", .type "object"]
abbrev tailO : List Value := [.type "OverflowError", .type "ArithmeticError", .type "Exception", .type "BaseException", .type "object"]
abbrev tailK : List Value := [.type "KeyError", .type "LookupError", .type "Exception", .type "BaseException", .type "object"]
abbrev tailL : List Value := [.type "LookupError", .type "Exception", .type "BaseException", .type "object"]
theorem baseV : BaseY "ValueError.__new__" tailV := ⟨⟨_, _, _, F.excBase_ValueError, by decide +kernel⟩, by decide +kernel, by decide +kernel, fun self => by kernel_rfl, by decide +kernel⟩
theorem baseR : BaseY "RuntimeError.__new__" tailR := ⟨⟨_, _, _, F.excBase_RuntimeError, by decide +kernel⟩, by decide +kernel, by decide +kernel, fun self => by kernel_rfl, by decide +kernel⟩
theorem baseO : BaseY "OverflowError.__new__" tailO := ⟨⟨_, _, _, F.excBase_OverflowError, by decide +kernel⟩, by decide +kernel, by decide +kernel, fun self => by kernel_rfl, by decide +kernel⟩
theorem baseK : BaseY "LookupError.__new__" tailK := ⟨⟨_, _, _, F.excBase_LookupError, by decide +kernel⟩, by decide +kernel, by decide +kernel, fun self => by kernel_rfl, by decide +kernel⟩
theorem baseL : BaseY "LookupError.__new__" tailL := ⟨⟨_, _, _, F.excBase_LookupError, by decide +kernel⟩, by decide +kernel, by decide +kernel, fun self => by kernel_rfl, by decide +kernel⟩
/-- own classes ahead of it -/
theorem own_has (X : String) (tail : List Value) : ∀ cs : List Addr, (cs.map Value.ref ++ tail).contains (.type X) = tail.contains (.type X)
  | [] => rfl
  | c :: cs => by
    rw [List.map_cons, List.cons_append, List.contains_cons, own_has X tail cs]
    rfl
theorem own_pass {tail : List Value} (self : Value) (h : refuseLoop self "__setattr__" tail = pure ()) : ∀ cs : List Addr, refuseLoop self "__setattr__" (cs.map Value.ref ++ tail) = pure ()
  | [] => h
  | c :: cs => by
    rw [List.map_cons, List.cons_append, refuseLoop_ref]
    exact own_pass self h cs
section
variable {prog : Program} {w : World} {A : Around} {E : Value → Shared → Prop} {R : Result → Shared → Prop} {h : Heap} {g : Array GenState} {d : Drawn} {t : Nat} {os : OsState}
variable {nm q : Str} {C N : Addr} {bs bm bmB : List Value} {hdct : Bool} {sn : List Str} {sub : List Value} {ab : Bool} {col : Option Bool} {dd : Option Addr} {k0 k1 k2 k3 k5 : Option Value} {B newId initId : String}
theorem check_newY {M : Model} (F : ExcBaseFacts B newId initId bmB) (hB : bm.contains (.type B) = true) {rest : List Value} {Q : Unit → Shared → Prop}
    (hC : h.get? C = some (excClassObj nm q C N bs bm hdct sn sub ab col dd k0 k1 k2 k3 k5 newId)) (hq : Q () ⟨h, g, d, t, os⟩) : wpAny M A (checkBuiltinCall newId ⟨.ref C :: rest, []⟩) Q E ⟨h, g, d, t, os⟩ := by
  have hcont : (Value.ref C :: bm).contains (.type B) = true := by rw [List.contains_cons, hB, Bool.or_true]
  have hstar := F.noStar
  simp only [checkBuiltinCall, F.newKind, F.newSplit, F.newRow]
  repeat (first | refine wpAny_loadPart_at hC ?_ | (refine wpAny_isSubtype_exc hC ?_; rw [hcont]) | refine wpAny_staticBase_exc hC ?_ | refine wpAny_madeBy_exc hC ?_ | simp only [bne_self_eq_false, Bool.false_eq_true, if_false] | wp_step)
  exact hq
theorem newY (F : ExcBaseFacts B newId initId bmB) (hB : bm.contains (.type B) = true) (hA : bm.contains (.type "AttributeError") = false) (hN : bm.contains (.type "NameError") = false) {rest : List Value}
    (hC : h.get? C = some (excClassObj nm q C N bs bm hdct sn sub ab col dd k0 k1 k2 k3 k5 newId))
    (hq : R (.ok (.ret (.ref (h.objs.size + 1)))) ⟨(h.push { cls := .type "tuple", data := .seq rest.toArray }).push
      { cls := .ref C, data := .fields #[.ref h.objs.size, .none, .none, .none, .bool false, .none] }, g, d, t, os⟩) (hrest : rest.length ≤ sizeLine) :
    codeAny (model prog w) A (.builtin newId ⟨.ref C :: rest, []⟩) R ⟨h, g, d, t, os⟩ := by
  have hends := F.ends
  have hcB : (Value.ref C :: bm).contains (.type B) = true := by rw [List.contains_cons, hB, Bool.or_true]
  have hcA : (Value.ref C :: bm).contains (.type "AttributeError") = false := by rw [List.contains_cons, hA]; rfl
  have hcN : (Value.ref C :: bm).contains (.type "NameError") = false := by rw [List.contains_cons, hN]; rfl
  refine codeAny_builtinAt F.entry ?_
  unfold Builtin.«BaseException.__new__»
  refine PySem.wpAt_bind ?_
  show PySem.wpAt _ _ _ (stack >>= _) _ _ _
  refine PySem.wpAt_bind (PySem.wpAt_stack fun p below => PySem.wpAt_of_wpAny ?_)
  wp_walk
  refine PySem.wpAt_of_wpAny ?_
  rw [F.owner]
  repeat (first | with_reducible refine wpAny_madeHere_exc F.canon hC ?_ | with_reducible refine wpAny_loadPart_at hC ?_ | (with_reducible refine wpAny_isSubtype_exc hC ?_; first | rw [hcB] | rw [hcA] | rw [hcN]) | wp_step)
  show R _ _
  rw [Heap.size_push]
  exact hq
theorem type_callY (F : ExcBaseFacts B newId initId bmB) (hB : bm.contains (.type B) = true) (hA : bm.contains (.type "AttributeError") = false) (hN : bm.contains (.type "NameError") = false) {rest : List Value} {fI : Addr} {Q : Fin → Shared → Prop}
    (hC : h.get? C = some (excClassObj nm q C N bs bm hdct sn sub ab col dd k0 k1 k2 k3 k5 newId))
    (hi : W.Looks (model prog w) h (typeLookup (.ref C) "__init__") (some (.ref fI))) (hb : ∀ self, W.Looks (model prog w) h (bindSpecial (.ref fI) self) (.ref fI, [self])) (hrest : rest.length ≤ sizeLine)
    (hq : codeAny (model prog w) A (.call (.ref fI) ⟨.ref (h.objs.size + 1) :: rest, []⟩)
      (fun r s' => match r with | .ok (.ret v) => v = .none ∧ Q (.done (.ret (.ref (h.objs.size + 1)))) s' | .ok _ => False | .error e => E e s')
      ⟨(h.push (W.kdv_tup rest)).push (excO C h.objs.size), g, d, t, os⟩) :
    wpAny (model prog w) A (Builtin.«type.__call__» ⟨.ref C :: rest, []⟩) Q E ⟨h, g, d, t, os⟩ := by
  repeat (first | with_reducible refine wpAny_loadPart_at hC ?_ | with_reducible refine wpAny_madeBy_exc hC ?_ | wp_step)
  refine codeAny_call_builtin_code (Code.quiet_builtin _ F.quiet) (check_newY F hB hC ?_)
  refine newY F hB hA hN hC ?_ hrest
  show wpAny _ _ _ _ _ _
  have k : ∀ b o, h.get? b = some o → ((h.push (W.kdv_tup rest)).push (excO C h.objs.size)).get? b = some o := fun b o e => Heap.get?_push_of_some _ (Heap.get?_push_of_some _ e)
  have hC₁ := k _ _ hC
  have hget : ((h.push (W.kdv_tup rest)).push (excO C h.objs.size)).get? (h.objs.size + 1) = some (excO C h.objs.size) := by heap_get
  have hcC : (Value.ref C :: bm).contains (.ref C) = true := by simp
  have i1 := hi.keeps k
  have b1 := (hb (.ref (h.objs.size + 1))).keeps k
  unfold isInstance
  repeat (first | with_reducible refine wpAny_loadPart_at hget ?_ | (with_reducible refine wpAny_isSubtype_exc hC₁ ?_; rw [hcC]) | wp_step)
  show wpAny _ _ (typeLookup (.ref C) _) _ _ _
  refine i1.at ?_
  refine wpAny_holding (wpAny_bind (b1.at ?_))
  refine wpAny_bind (wpAny_call (codeAny_mono hq fun r s' z => ?_))
  rcases r with e | (v | _ | _ | _) <;> first | exact z | exact z.elim | skip
  obtain ⟨rfl, z⟩ := z
  first
    | exact wpAny_pure (wpAny_pure z)
    | (wp_walk; exact z)
theorem callY (F : ExcBaseFacts B newId initId bmB) (hB : bm.contains (.type B) = true) (hA : bm.contains (.type "AttributeError") = false) (hN : bm.contains (.type "NameError") = false) {rest : List Value} {fI : Addr}
    (hC : h.get? C = some (excClassObj nm q C N bs bm hdct sn sub ab col dd k0 k1 k2 k3 k5 newId))
    (hi : W.Looks (model prog w) h (typeLookup (.ref C) "__init__") (some (.ref fI))) (hb : ∀ self, W.Looks (model prog w) h (bindSpecial (.ref fI) self) (.ref fI, [self])) (hrest : rest.length ≤ sizeLine)
    (hq : codeAny (model prog w) (A.under (.builtin "type.__call__" ⟨.ref C :: rest, []⟩)) (.call (.ref fI) ⟨.ref (h.objs.size + 1) :: rest, []⟩) (W.InitBack (h.objs.size + 1) R)
      ⟨(h.push (W.kdv_tup rest)).push (excO C h.objs.size), g, d, t, os⟩) :
    codeAny (model prog w) A (.call (.ref C) ⟨rest, []⟩) R ⟨h, g, d, t, os⟩ := by
  have f1 := tc_lookup
  have f2 := tc_bind (.ref C)
  have hTy : (⟨h, g, d, t, os⟩ : Shared).TypeIs (.ref C) "type" := ⟨_, hC, rfl⟩
  refine codeAny_of_tree ?_
  show wpAny _ _ (callAny (.ref C) _) _ _ _
  repeat (any_goals (first | assumption | with_reducible refine wpAny_loadPart_at hC ?_ | wp_step))
  refine ⟨rfl, ?_⟩
  refine codeAny_call_builtin_at (Code.quiet_builtin _ (by decide +kernel)) entry_typeCall (wpAny_check_type_call_sub hC (type_callY F hB hA hN hC hi hb hrest ?_))
  refine codeAny_mono hq fun r s' z => ?_
  rcases r with e | (v | _ | _ | _) <;> exact z
end
section
open Builtin Builtin.ObjectAttr
variable {prog : Program} {w : World} {A : Around} {E : Value → Shared → Prop} {R : Result → Shared → Prop} {hp : Heap} {g : Array GenState} {d : Drawn} {t : Nat} {os : OsState}
/-- the first field of an error -/
theorem osaY {K : W.Frag} {name : Str} {tk : Tok} {v : Value} {x C : Addr} {fv : Array Value} {cd : ClassData} {cs : List Addr} {tail : List Value}
    (X : K.In hp) (hx : hp.get? x = some { cls := .ref C, data := .fields fv }) (hcd : W.clsIn K C = some cd) (hm : cd.mro = .ref C :: (cs.map Value.ref ++ tail)) (hps : ∀ self : Value, refuseLoop self "__setattr__" tail = pure ()) (hob0 : tail.contains (.type "object") = true)
    (hh : cd.hasDict = true) (ha : W.findIn K (.ref C) name = some none)
    (hq : ∀ h' tk' dx, (∀ b o, b ≠ x → hp.get? b = some o → h'.get? b = some o) → hp.objs.size ≤ dx → dx ≠ x → h'.get? x = some { cls := .ref C, dict := some dx, data := .fields fv } →
      h'.Ns1 dx (fun y => if y = name then some v else none) → R (.ok (.ret .none)) ⟨h', g, d, tk', os⟩) :
    codeAny (model prog w) A (.call (.builtin "object.__setattr__") ⟨[.ref x, .str name tk, v], []⟩) R ⟨hp, g, d, t, os⟩ := by
  have I : W.InstAt hp x { cls := .ref C, data := .fields fv } C none := ⟨hx, rfl, rfl, trivial⟩
  have SF := F.store_object
  have ne : cd.mro.isEmpty = false := by rw [hm]; rfl
  have hob : cd.mro.contains (.type "object") = true := by
    rw [hm, List.contains_cons, own_has, hob0, Bool.or_true]
  have hxs : x ≠ hp.objs.size := Nat.ne_of_lt (Heap.lt_size hx)
  have sub : W.Looks (model prog w) hp (isInstance (.ref x) (.type "object")) true := I.type.andThen (W.looks_mroIn X (by unfold W.mroIn; rw [hcd, Option.bind_some, if_neg (by rw [ne]; decide), hob]))
  refine codeAny_call_builtin SF.slot.plain SF.entry (@W.check_slot (model prog w) _ _ ⟨hp, g, d, t, os⟩ "object.__setattr__" "object" "__setattr__" (.ref x) [.str name tk, v] [] _ SF.kind SF.split sub (SF.args (.ref x) (.str name tk) v) ?_)
  have hmr : W.Looks (model prog w) hp (mroOf (.ref C)) cd.mro := (W.looks_clsIn X hcd).andThen .now
  have L3 : W.Looks (model prog w) hp (storeTaker? none) none := .now
  have hcls : W.Looks (model prog w) hp (classData C) cd := W.looks_clsIn X hcd
  rw [W.osa_eq, refuse_eq]
  refine wpAny_bind (wpAny_bind (I.type.at (wpAny_bind (hmr.at ?_))))
  rw [hm, refuseLoop_ref, own_pass _ (hps _)]
  refine wpAny_pure (wpAny_bind (I.type.at (wpAny_bind ((W.looks_findIn X ha).at (wpAny_bind (L3.at ?_))))))
  show wpAny _ _ (storeInOwnDict (.ref x) (.ref C) (.str name tk) name v false) _ _ _
  clear hm ne hob hmr
  obtain ⟨nm, bs, mro, ns, qn, hd, sn, sb, ab, col, del⟩ := cd
  dsimp only at hh
  subst hh
  unfold storeInOwnDict ownDictForStores
  repeat (first | with_reducible refine HandSPX.store_in_new ?_ ?_ | with_reducible refine wpAny_loadPart_at hx ?_ | with_reducible refine hcls.at ?_ | wp_step)
  · exact ⟨_, #[], _, (Heap.get?_update_ne _ _ _ _ hxs.symm).trans (Heap.get?_push_at rfl rfl), rfl, fun e he => absurd he (by simp), fun _ => rfl⟩
  · intro h' tk' hn' hs
    have hx₁ : (hp.push { cls := .type "dict", data := .dict #[] }).get? x = some { cls := .ref C, data := .fields fv } := Heap.get?_push_of_some _ hx
    refine hq h' tk' hp.objs.size (fun b o hb ho => ?_) (Nat.le_refl _) hxs.symm ?_ hn'
    · exact (hs.2 b (Nat.ne_of_lt (Heap.lt_size ho))).trans ((Heap.get?_update_ne _ _ _ _ hb).trans (Heap.get?_push_of_some _ ho))
    · exact (hs.2 x hxs).trans (Heap.get?_update_self _ hx₁ rfl)
end
/-- what the written part says of an own error class -/
structure OexY (K : PySem.W.Frag) (C : Addr) : Prop where
  cls : ∃ newId tail, BaseY newId tail ∧ ∃ nm q N bs cs sn sub ab col dd k0 k1 k2 k3 k5, K.lookup C = some (excClassObj nm q C N bs (List.map Value.ref cs ++ tail) true sn sub ab col dd k0 k1 k2 k3 k5 newId)
  sa : PySem.W.findIn K (.ref C) "__setattr__" = some (some (.builtin "object.__setattr__"))
  exC : PySem.W.subIn K (.ref C) (.type "BaseException") = some true
  tyC : PySem.W.typeIn K (.ref C) = some (.type "type")
  kC : PySem.W.keepIn K (.ref C) = true
section
variable {X : Cx} {pins : List (Addr × Obj)} {σ : St} {H : Hp} {s : Shared} {a C dx : Addr} {f : Str} {y : V} {u : Value} {fs : List (Str × V)} {Q : Unit → Shared → Prop} {E : Value → Shared → Prop} {A : Around}
/-- self.f = y, the first one -/
theorem ostY (T : OexY X.K C) (I : Inv X pins σ H s) (e : H a = some (exo a C none)) (hno : PySem.W.findIn X.K (.ref C) f = some none) (ry : RelV y u)
    (h : ∀ dx s', H dx = none → dx ≠ a → Inv X pins σ (upd (upd H dx (exd dx [(f, y)])) a (exo a C (some dx))) s' → Q () s') : wpAny (model X.prog X.w) A (setAttr (.ref a) f u) Q E s := by
  obtain ⟨newId, tail, BY, nm, q, N, bs, cs, sn, sub, ab, col, dd, k0, k1, k2, k3, k5, hC⟩ := T.cls
  have hcl : PySem.W.clsIn X.K C = some { name := nm, bases := bs, mro := .ref C :: (List.map Value.ref cs ++ tail), ns := N, qualname := q, hasDict := true, slotNames := sn, subclasses := sub, abstract := ab, collection := col, hasDel := false } := by unfold PySem.W.clsIn; rw [hC] <;> rfl
  obtain ⟨t1, ho⟩ := exo_at I.hok e
  obtain ⟨hp, g, d, t, os⟩ := s
  refine PySem.W.set_plain I.kIn (ox := { cls := .ref C, dict := none, data := .fields #[.ref t1, .none, .none, .none, .bool false, .none] }) (od := none) ⟨ho, rfl, rfl, trivial⟩ T.sa ?_
  refine osaY I.kIn ho hcl rfl BY.pass BY.obj rfl hno (fun h' tk' dx k dn dne hx hn => ?_)
  have hnd : H dx = none := I.hok.fresh dn
  have nd : ∀ {b : Addr} {o : Obj}, hp.get? b = some o → b ≠ dx := fun {b o} q => Nat.ne_of_lt (Nat.lt_of_lt_of_le (Heap.lt_size q) dn)
  have na : ∀ {b : Addr}, H b = none → b ≠ a := fun {b} n z => by
    rw [z, e] at n
    cases n
  have Un1 : Un X.fs [] H (upd (upd H dx (exd dx [(f, y)])) a (exo a C (some dx))) hp h' := {
    keep := fun b o q n _ _ => k b o (na n) q
    slot := fun b o q n _ _ => ⟨o.slots, k b o (na n) q⟩
    free := fun b o q n _ => by rw [upd_ne (na n), upd_ne (nd q)]; exact n
    there := fun b o q _ => by
      by_cases hb : b = a
      · exact ⟨_, by rw [hb]; exact hx⟩
      · exact ⟨o, k b o hb q⟩
    tups := fun b xs q => by rw [upd_ne (at_ne e q exo_tup), upd_ne (ne_of_none q hnd)]; exact q
    frzs := fun b o v q => by rw [upd_ne (at_ne e q exo_frz), upd_ne (ne_of_none q hnd)]; exact q
    tbls := fun b ps q => ⟨#[], by rw [upd_ne (at_ne e q exo_tbl), upd_ne (ne_of_none q hnd), q]; simp⟩ }
  refine h dx _ hnd dne (I.un (t' := tk') Un1 fun b o q => ?_)
  by_cases hb : b = a
  · subst hb
    rw [upd_same] at q
    cases q
    exact exo_ok hx
  · rw [upd_ne hb] at q
    by_cases hd : b = dx
    · subst hd
      rw [upd_same] at q
      cases q
      exact exd_ok hn (relO_put (fs := []) ry fun g => True.intro)
    · rw [upd_ne hd] at q
      exact (I.hok b o q).stay (fun c v hc z => k c v (by
          rcases hc with hc | hc
          · rw [hc]
            exact hb
          · exact at_ne e hc exo_own) z)
        (fun c hc => by rw [upd_ne (at_ne e hc exo_own), upd_ne (ne_of_none hc hnd)]; exact hc) (fun c xs hc => by rw [upd_ne (at_ne e hc exo_tup), upd_ne (ne_of_none hc hnd)]; exact hc)
end
/-- self.f = e on a new error -/
def tOsY (K : PySem.W.Frag) (f : Str) (to te : TE) : TS := fun D σ H => te σ H fun y H1 => to σ H1 fun x H2 => ∃ a C : Addr, x = .ref a ∧ OexY K C ∧ PySem.W.findIn K (.ref C) f = some none ∧
  H2 a = some (exo a C none) ∧ ∀ dx, H2 dx = none → dx ≠ a → D.nx σ (upd (upd H2 dx (exd dx [(f, y)])) a (exo a C (some dx)))
theorem ps_osY {X : Cx} {o e : Expr} {to te : TE} {f : Str} {p' pos : Pos} (ho : PE X o to) (he : PE X e te) (hs : swapsWith e (some (.Attribute o f p')) pos.line X.env = pure false := by rfl) : PS X (.Assign [.Attribute o f p'] e pos) (tOsY X.K f to te) := by
  refine ⟨fun pins s σ H D I h => ?_⟩
  refine plainObj_wpAny_Assign_Attribute (thn (he.run pins s σ H _ I h) fun v s1 ⟨y, H1, I1, r1, q1⟩ => thn (ho.run pins s1 σ H1 _ I1 q1) fun u s2 ⟨x, H2, I2, r2, a, C, ex, T, hno, ea, q⟩ => ?_) hs
  subst ex
  obtain rfl : u = Value.ref a := r2
  exact ostY T I2 ea hno r1 fun dx s' n ne J => ⟨σ, _, J, q dx n ne⟩
/-- what the written part says of such a class with one field -/
structure ErrY (K : PySem.W.Frag) (mg : Str → Option Value) (x f : Str) (C fI : Addr) : Prop where
  oex : OexY K C
  gC : mg x = some (.ref C)
  iC : PySem.W.findIn K (.ref C) "__init__" = some (some (.ref fI))
  tI : PySem.W.typeIn K (.ref fI) = some (.type "function")
  noF : PySem.W.findIn K (.ref C) f = some none
  xf : XfC K C
/-- the __init__ itself -/
theorem ok_yinit {P : Program} {w : World} {K : PySem.W.Frag} {mg : Str → Option Value} {base : Heap} {C fI : Addr} {x f qual : Str} {fd : FuncData} {st : Stmt} {p1 p2 p3 p4 : Pos} (F : Fun K "__init__" qual st fI fd) (T : ErrY K mg x f C fI)
    (hb : defBody st = [.Assign [.Attribute (.Name "self" p1) f p2] (.Name f p3) p4]) (sc : FnScope ["self", f] ["self", f] (defScope st))
    (hsw : ∀ (env : Env), swapsWith (.Name f p3) (some (.Attribute (.Name "self" p1) f p2)) p4.line env = pure false) (v0 : Vis (defScope st) "self") (v1 : Vis (defScope st) f) (d1 : (f == ("__debug__" : Str)) = false) (d2 : (f == ("__classdict__" : Str)) = false) :
    FnOk P w K mg base CX0 1 fI fd ["self", f] (spX C f) := by
  refine F.ok sc (fun vs H Q E h => ?_) (fun cdv A outer s H vs Q E hr h => ?_)
  · obtain ⟨a, v, rfl, _⟩ := h
    rfl
  · obtain ⟨a, v, rfl, ha, k⟩ := h
    rw [hb]
    refine ⟨_, pss_one (ps_osY (pe_var (i := 0) rfl v0) (pe_var (i := 1) rfl v1 d1 d2) (hsw _)), ?_⟩
    exact ⟨_, rfl, _, rfl, a, C, rfl, T.oex, T.noF, ha, fun dx n ne => k dx n ne⟩
section
variable {X : Cx} {C fI : Addr} {x f : Str} {e : Expr} {es : List Expr} {ta : TA} {p pos : Pos} {k : Nat} {fd : FuncData}
/-- the call of such a class: __init__ runs with the new error at a -/
theorem callsY {pins : List (Addr × Obj)} {σ : St} {H1 : Hp} {s1 : Shared} {v : V} {u : Value} {Q : Value → Shared → Prop} (T : ErrY X.K X.mg x f C fI) (F1 : FnOk X.prog X.w X.K X.mg X.base CX0 k fI fd ["self", f] (spX C f)) (hr : Room (k + 1) X.A)
    (hb : Binds X.K fd ["self", f] []) (I1 : Inv X pins σ H1 s1) (r1 : RelV v u)
    (hq : ∀ (a : Addr) (s2 s3 : Shared), s1.heap.objs.size ≤ a → (∀ b o, s1.heap.get? b = some o → s2.heap.get? b = some o) → s2.os = s1.os → Inv X pins σ (upd H1 a (exo a C none)) s2 →
      CE X.stack X.prog X.w (upd H1 a (exo a C none)) s2 (fun w H2 => w = .non ∧ ∃ dx, H1 dx = none ∧ dx ≠ a ∧ H2 = upd (upd (upd H1 a (exo a C none)) dx (exd dx [(f, v)])) a (exo a C (some dx))) .none s3 → Q (.ref a) s3) :
    wpAny (model X.prog X.w) X.A (call (.ref C) [u]) Q X.xe s1 := by
  obtain ⟨newId, tail, ⟨⟨B, initId, bmB, FB, hB0⟩, hA0, hN0, _, _⟩, nm, q, N, bs, cs, sn, sub, ab, col, dd, k0, k1, k2, k3, k5, hC⟩ := T.oex.cls
  obtain ⟨hp, g, dr, tk, os⟩ := s1
  have hsz : hp.objs.size ≤ hp.objs.size + 1 := Nat.le_succ _
  have hn : H1 (hp.objs.size + 1) = none := I1.hok.fresh hsz
  have kk : ∀ b o, hp.get? b = some o → ((hp.push (PySem.W.kdv_tup [u])).push (excO C hp.objs.size)).get? b = some o := fun b o e => Heap.get?_push_of_some _ (Heap.get?_push_of_some _ e)
  have hget : ((hp.push (PySem.W.kdv_tup [u])).push (excO C hp.objs.size)).get? (hp.objs.size + 1) = some (excO C hp.objs.size) := by heap_get
  have I2 : Inv X pins σ (upd H1 (hp.objs.size + 1) (exo (hp.objs.size + 1) C none)) ⟨(hp.push (PySem.W.kdv_tup [u])).push (excO C hp.objs.size), g, dr, tk, os⟩ := I1.laid (t' := tk) kk hsz (exo_ok hget)
  have r2 : Vals [V.ref (hp.objs.size + 1), v] [Value.ref (hp.objs.size + 1), u] := .cons rfl (.cons r1 .nil)
  refine wpAny_call (callY FB (by rw [own_has]; exact hB0) (by rw [own_has]; exact hA0) (by rw [own_has]; exact hN0) (I1.kIn _ _ hC) (PySem.W.looks_findIn I1.kIn T.iC) (fun self => PySem.W.bind_fn I1.kIn self T.tI) (by show 1 ≤ sizeLine; rw [sizeLine_eq]; omega) ?_)
  refine codeAny_mono (F1.run _ X.stack _ _ ⟨[Value.ref (hp.objs.size + 1), u], []⟩ [Value.ref (hp.objs.size + 1), u] _
      (fun w H2 => w = .non ∧ ∃ dx, H1 dx = none ∧ dx ≠ hp.objs.size + 1 ∧ H2 = upd (upd (upd H1 (hp.objs.size + 1) (exo (hp.objs.size + 1) C none)) dx (exd dx [(f, v)])) (hp.objs.size + 1) (exo (hp.objs.size + 1) C (some dx)))
      (fun _ _ _ => False) (hr.make C [u] []) (I2.env0.make C [u] []) (hb _ [Value.ref (hp.objs.size + 1), u] I2.kIn rfl) r2 ⟨_, v, rfl, upd_same, fun dx hdx ne => ⟨rfl, dx, by rw [upd_ne ne] at hdx; exact hdx, ne, rfl⟩⟩) fun r s' hq' => ?_
  cases r with
  | error er => exact False.elim hq'
  | ok fl =>
    cases fl with
    | ret w =>
      have hw : w = .none := by
        obtain ⟨v', H2, _, _, _, _, rv, ev, _⟩ := hq'
        subst ev
        exact rv
      subst hw
      exact ⟨rfl, hq _ ⟨(hp.push (PySem.W.kdv_tup [u])).push (excO C hp.objs.size), g, dr, tk, os⟩ s' hsz kk rfl I2 hq'⟩
    | next => exact False.elim hq'
    | brk => exact False.elim hq'
    | cont => exact False.elim hq'
/-- E(e) as a value -/
def tMkY (C : Addr) (f : Str) (ta : TA) : TE := fun σ H Q => ta σ H fun vs H1 => ∃ v, vs = [v] ∧ ∀ a dx, H1 a = none → H1 dx = none → dx ≠ a → Q (.ref a) (upd (upd (upd H1 a (exo a C none)) dx (exd dx [(f, v)])) a (exo a C (some dx)))
theorem pe_mkY (T : ErrY X.K X.mg x f C fI) (F1 : FnOk X.prog X.w X.K X.mg X.base CX0 k fI fd ["self", f] (spX C f)) (hr : Room (k + 1) X.A) (hb : Binds X.K fd ["self", f] []) (ha : PA X (e :: es) ta) (hg : Gl X x := by rfl)
    (hdb : (x == ("__debug__" : Str)) = false := by decide) (hs : starEach (e :: es) X.env = (false, eval e X.env) :: starEach es X.env := by rfl) (hpl : (backTo pos (starEach es X.env)).any (·.1) = false := by rfl) :
    PE X (.Call (.Name x p) (e :: es) [] pos) (tMkY C f ta) := by
  refine ⟨fun pins s σ H Q I h => ?_⟩
  refine wpAny_Call_Name_kw (ld_glob I hg T.gC ?_ hdb)
  refine PySem.W.callWith_K (h₀ := X.base) I.ok.mod.kin T.oex.kC (thn (ha.run pos pins s σ H _ I h) fun us s1 ⟨vs, H1, I1, r1, v, ev, q⟩ => ⟨I1.kIn, ?_⟩) hs hpl
  subst ev
  obtain ⟨u, rfl, ru⟩ := vals1 r1
  refine callsY T F1 hr hb I1 ru fun a s2 s3 ha _ _ I2 c => ?_
  obtain ⟨v', H2, I3, rv, ev, dx, n, ne, e2⟩ := I2.after c
  subst e2
  exact ⟨.ref a, _, I3, rfl, q a dx (I1.hok.fresh ha) n ne⟩
/-- raise E(e) -/
theorem pmk_Y (T : ErrY X.K X.mg x f C fI) (F1 : FnOk X.prog X.w X.K X.mg X.base CX0 k fI fd ["self", f] (spX C f)) (hr : Room (k + 1) X.A) (hb : Binds X.K fd ["self", f] []) (ha : PA X (e :: es) ta) (hg : Gl X x := by rfl)
    (hdb : (x == ("__debug__" : Str)) = false := by decide) (hs : starEach (e :: es) X.env = (false, eval e X.env) :: starEach es X.env := by rfl) (hpl : (backTo pos (starEach es X.env)).any (·.1) = false := by rfl) :
    PMk X (.Call (.Name x p) (e :: es) [] pos) (tMkX C f ta) := by
  intro pins s σ H Q I h
  refine wpAny_Call_Name_kw (ld_glob I hg T.gC ?_ hdb)
  refine PySem.W.callWith_K (h₀ := X.base) I.ok.mod.kin T.oex.kC (thn (ha.run pos pins s σ H _ I h) fun us s1 ⟨vs, H1, I1, r1, v, ev, q⟩ => ⟨I1.kIn, ?_⟩) hs hpl
  subst ev
  obtain ⟨u, rfl, ru⟩ := vals1 r1
  refine callsY T F1 hr hb I1 ru fun a s2 s3 ha kk hos I2 c => ?_
  obtain ⟨v', H2, os2, bare2, un2, hok2, rv, ev, dx, n, ne, e2⟩ := c
  subst e2
  obtain ⟨hp, g, dr, tk, os⟩ := s1
  obtain ⟨hp2, g2, dr2, tk2, o2⟩ := s2
  obtain ⟨hp3, g3, dr3, tk3, o3⟩ := s3
  have z := mk_end (d1 := dr) (d2 := dr3) (t2 := tk3) (Q := Q) (raises_own T.oex.exC T.oex.tyC) I1 ha kk un2 hok2 (os2.trans hos) bare2 upd_same (by rw [upd_ne ne, upd_same]) n ?_
  · exact z
  · have hn : H1 a = none := I1.hok.fresh ha
    have eq : upd (del (upd (upd (upd H1 a (exo a C none)) dx (exd dx [(f, v)])) a (exo a C (some dx))) a) dx (.xd [(f, v)]) = upd H1 dx (.xd [(f, v)]) := by
      funext b
      by_cases hb : b = dx
      · subst hb
        rw [upd_same, upd_same]
      · rw [upd_ne hb, upd_ne hb]
        by_cases hba : b = a
        · subst hba
          rw [del_same]
          exact hn.symm
        · rw [del_ne hba, upd_ne hba, upd_ne hb, upd_ne hba]
    rw [eq]
    exact q dx n
theorem ps_raiseY {W : WX} {pos2 : Pos} (hc : X.calm = true) (T : ErrY X.K X.mg x f C fI) (F1 : FnOk X.prog X.w X.K X.mg X.base CX0 k fI fd ["self", f] (spX C f)) (hr : Room (k + 1) X.A) (hb : Binds X.K fd ["self", f] []) (tk : Takes X W) (ha : PA X (e :: es) ta)
    (hg : Gl X x := by rfl) (hdb : (x == ("__debug__" : Str)) = false := by decide) (hs : starEach (e :: es) X.env = (false, eval e X.env) :: starEach es X.env := by rfl) (hpl : (backTo pos (starEach es X.env)).any (·.1) = false := by rfl) :
    PS X (.Raise (some (.Call (.Name x p) (e :: es) [] pos)) none pos2) (tRaiseX C f W ta) := ps_raise hc tk (pmk_Y T F1 hr hb ha hg hdb hs hpl)
end
section
variable {X : Cx} {C : Addr} {x : Str} {p pos : Pos} {bmB : List Value} {B newId initId : String}
/-- E(), a class without own __init__ -/
theorem pe_mkY0 (F : ExcBaseFacts B newId initId bmB) (q : PySem.W.excIn X.K C bmB newId = true) (gC : X.mg x = some (.ref C)) (kC : PySem.W.keepIn X.K (.ref C) = true) (hg : Gl X x := by rfl) (hdb : (x == ("__debug__" : Str)) = false := by decide) :
    PE X (.Call (.Name x p) [] [] pos) (fun σ H Q => ∀ a, H a = none → Q (.ref a) (upd H a (exo a C none))) := by
  refine ⟨fun pins s σ H Q I h => ?_⟩
  refine wpAny_Call_Name_kw (ld_glob I hg gC ?_ hdb)
  refine PySem.W.callWith_K0 I.kIn kC ?_
  show wpAny _ _ (call (.ref C) []) _ _ _
  obtain ⟨bm, N, nm, qn, bs, hdct, sn, sub, ab, col, dd, k0, k1, k2, k3, k5, mN, hC, hN, hni, T⟩ := exc_obj I.kIn q
  refine wpAny_call_exc_subT F T hC hN hni (fun h' a hm => ?_) (by show 0 ≤ sizeLine; omega)
  have hn : H a = none := I.hok.gone hm.new
  obtain ⟨t, ht, _, _⟩ := hm.there
  exact ⟨.ref a, _, I.laidN hm.keeps hm.new hn (exo_ok ht), rfl, h a hn⟩
end
/-- the error at a in H: class C, dict d -/
def ErAt (H : Hp) (a C : Addr) (fs : List (Str × V)) : Prop := (H a = some (exo a C none) ∧ fs = []) ∨ ∃ dd, H a = some (exo a C (some dd)) ∧ H dd = some (exd dd fs)
theorem ErAt.inst {X : Cx} {pins : List (Addr × Obj)} {σ : St} {H : Hp} {s : Shared} {a C : Addr} {fs : List (Str × V)} (I : Inv X pins σ H s) (h : ErAt H a C fs) : ∃ oe od, PySem.W.InstAt s.heap a oe C od ∧ (∀ f v, fs.lookup f = some v → ∃ o u, od = some o ∧ PySem.W.lookIn f o = some (some u) ∧ RelV v u) := by
  rcases h with ⟨ha, rfl⟩ | ⟨dd, ha, hd⟩
  · obtain ⟨t1, ho⟩ := exo_at I.hok ha
    exact ⟨_, none, ⟨ho, rfl, rfl, trivial⟩, fun f v e => nomatch e⟩
  · obtain ⟨t1, ho⟩ := exo_at I.hok ha
    obtain ⟨mA, hns, hr⟩ := exd_at I.hok hd
    obtain ⟨od, hod, hl⟩ := lookIn_ns hns
    refine ⟨_, some od, ⟨ho, rfl, rfl, hod⟩, fun f v e => ?_⟩
    obtain ⟨u, hu, ru⟩ := RelO.some_of (v := v) (o := mA f) (by rw [← e]; exact hr f)
    exact ⟨od, u, rfl, by rw [hl, hu], ru⟩
/-- isinstance(e, c), e an error held as a value -/
def rIsY (K : PySem.W.Frag) : List V → Hp → VK → Prop := fun xs H Q => ∃ (a D : Addr) (fs : List (Str × V)) (c : V) (cv : Value) (b : Bool), xs = [.ref a, c] ∧ ErAt H a D fs ∧ ExcC K D ∧ ClsV c cv ∧ PySem.W.kitOne K (.ref D) cv = some b ∧ Q (.bl b) H
theorem call_isY {X : Cx} : CallR X (.builtin "isinstance") (rIsY X.K) := by
  intro pins s σ H xs us Q I r h
  obtain ⟨a, D, fs, c, cv, b, rfl, hE, T, hc, e, q⟩ := h
  obtain ⟨u, t, rfl, ru, rt⟩ := vals2 r
  obtain rfl : u = Value.ref a := ru
  have ec := hc.eq rt
  subst ec
  obtain ⟨oe, od, J, _⟩ := hE.inst I
  have hcl : (PySem.W.clsIn X.K D).isSome = true := by
    obtain ⟨cd, hc, _⟩ := PySem.W.any_some T.hd
    rw [hc]
    rfl
  exact PySem.W.kia_one (PySem.W.kitx_exc hcl T.hg T.hk T.hs T.ha T.hn T.ht T.hm) I.kIn J e (fun z => nomatch z) fun tk => ⟨.bl b, H, I.kept (t' := tk) fun _ _ z => z, rfl, q⟩
/-- e.f, e an error held as a value -/
def tYf (K : PySem.W.Frag) (f : Str) (te : TE) : TE := fun σ H Q => te σ H fun x H1 => ∃ (a C : Addr) (fs : List (Str × V)) (v : V), x = .ref a ∧ XfC K C ∧ PySem.W.findIn K (.ref C) f = some none ∧ ErAt H1 a C fs ∧ fs.lookup f = some v ∧ Q v H1
theorem pe_yf {X : Cx} {e : Expr} {te : TE} {pos : Pos} {f : Str} (he : PE X e te) (hb : attributeBase e f X.env (eval e X.env) = eval e X.env := by rfl) : PE X (.Attribute e f pos) (tYf X.K f te) := by
  refine ⟨fun pins s σ H Q I h => ?_⟩
  refine attr_of hb (thn (he.run pins s σ H _ I h) fun u s1 hh => ?_)
  obtain ⟨x, H1, I1, rx, a, C, fs, v, ex, T, hno, hE, l, q⟩ := hh
  subst ex
  obtain rfl : u = Value.ref a := rx
  obtain ⟨oe, od, J, hf⟩ := hE.inst I1
  obtain ⟨o, u, rfl, hl, ru⟩ := hf f v l
  exact HandSPX.exc_get I1.kIn J T.ga T.gg T.exC (PySem.W.findObj_own T.hdC hno rfl hl) (handed_of ru) ⟨v, H1, I1.tok _, ru, q⟩
end Fu

/-! Several clauses 'except x as n'. -/
namespace Fu
open PySem L2
open PyProof.Rows hiding St
/-- the ends of a clause's suite: the name goes -/
def goes (i : Nat) (D : Ends) : Ends := { nx := fun σ' H' => D.nx (σ'.set i none) H', rt := D.rt, bk := fun σ' H' => D.bk (σ'.set i none) H', ct := fun σ' H' => D.ct (σ'.set i none) H' }
/-- what the clauses wish of an error of the body, one after the other -/
def wManyAs (K : PySem.W.Frag) (i : Nat) (Wout : WX) (D : Ends) : List (Value × (Addr → Value → Option Addr → TS)) → WX
  | [] => Wout
  | (c, ts) :: r => fun cls d σ H => ∃ b, PySem.W.exmOne K cls c = some b ∧ (b = true → ∀ a, H a = none → ts a cls d (goes i D) (σ.set i (some (.ref a))) H) ∧ (b = false → wManyAs K i Wout D r cls d σ H)
inductive HdsAs (X : Cx) (n : Str) : List ExceptHandler → List (Value × (Addr → Value → Option Addr → TS)) → Prop
  | nil : HdsAs X n [] []
  | cons {x : Str} {c : Value} {ts : Addr → Value → Option Addr → TS} {b₀ : Stmt} {suite : List Stmt} {np pos' : Pos} {hds : List ExceptHandler} {l : List (Value × (Addr → Value → Option Addr → TS))} (hc : Names X x c)
      (hsu : ∀ (a : Addr) (oe : Obj) (cls : Value) (d : Option Addr) (pn : List (Addr × Obj)), Zc cls d oe → (∃ vs, oe.data = .fields vs) → PSs (X.suite a ((a, oe) :: pn)) (b₀ :: suite) (ts a cls d)) (r : HdsAs X n hds l) :
      HdsAs X n (.ExceptHandler (some (.Name x np)) (some n) (b₀ :: suite) pos' :: hds) ((c, ts) :: l)
section
variable {X : Cx} {n : Str} {i : Nat} {body : List Stmt} {h₀ : ExceptHandler} {hds : List ExceptHandler} {l : List (Value × (Addr → Value → Option Addr → TS))} {pos : Pos} {tb : WX → TS} {Wout : WX}
theorem ps_try_manyAs (hs : X.stack = X.env :: X.outer) (hf : X.env.frame = some X.env.locals) (hN : X.N.Nodup) (hi : X.N[i]? = some n) (hln : X.env.kindOf n = some .local) (tk : Takes X Wout)
    (hb : ∀ (W : WX) (pn : List (Addr × Obj)) (xe : Value → Shared → Prop), Takes (X.tr pn xe) W → PassesOwn (model X.prog X.w) X.A X.env xe → PSs (X.tr pn xe) body (tb W))
    (hh : HdsAs X n (h₀ :: hds) l) : PS X (.Try body (h₀ :: hds) [] [] pos) (fun D σ H => tb (wManyAs X.K i Wout D l) D σ H) := by
  refine ⟨fun pins s σ H D I h => ?_⟩
  have ok := I.ok
  have hfr : X.A.frames = some (X.env :: X.outer) := by rw [ok.frames, hs]
  have hloc : Loc X.env.scope n := .inl hln
  refine wpAny_Try_except ?_
  refine wpAny_mono ((hb (wManyAs X.K i Wout D l) (X.pn ++ pins) (fun e s₁ => wpAny (model X.prog X.w) X.A (noteFrame e X.env) (fun _ s₂ => wpAny (model X.prog X.w) X.A (setFlight e none) (fun _ s₃ =>
    wpAny (model X.prog X.w) X.A (handleBy e X.env (h₀ :: hds)) (SP X pins D) X.xe s₃) X.xe s₂) X.xe s₁) (fun u s' xx => ?_) PassesOwn.looking).run [] s σ H D (I.toTry _) h) (fun f s1 hsp => ?_) (fun e s1 he => he)
  · obtain ⟨a, B, sI, pins', σ', H', cls, d, rfl, J', nb, up, sky, na, os, ag, w⟩ := xx
    have J : Inv X pins σ' H' sI := J'.ofTry ok
    have sky' : Sky B (X.env :: X.outer) a (Zc cls d) X.env.locals s'.heap := by rw [← hs]; exact sky
    show wpAny (model X.prog X.w) X.A (noteFrame (.ref a) X.env) _ _ _
    refine Sky.land Zc.steady hfr hf sky' fun h3 fl3 up3 => ?_
    have J3 : Inv X pins σ' H' { s' with heap := h3 } := J.landed nb fl3.1 (up.trans up3) os ag
    obtain ⟨oe3, vs3, he3, hz3, hd3⟩ := fl3.there
    have nfr : a ∉ frs (X.env :: X.outer) := fun hm => by
      obtain ⟨_, o', e', hnf⟩ := fl3.2.2.1.mem hm
      rw [he3] at e'
      cases e'
      exact hnf _ hd3
    have nL : a ≠ X.env.locals := fun z => nfr (List.mem_filterMap.mpr ⟨X.env, List.mem_cons_self, by rw [hf, z]⟩)
    have nF : a ∉ X.fs := fun hm => by
      obtain ⟨e, he, q⟩ := List.mem_filterMap.mp hm
      exact nfr (List.mem_filterMap.mpr ⟨e, List.mem_cons_of_mem _ he, q⟩)
    have S3 := J3.suite he3 hd3 na nL nF
    have go : ∀ {hds' : List ExceptHandler} {l' : List (Value × (Addr → Value → Option Addr → TS))}, HdsAs X n hds' l' → wManyAs X.K i Wout D l' cls d σ' H' →
        wpAny (model X.prog X.w) X.A (handleBy (.ref a) X.env hds') (SP X pins D) X.xe { s' with heap := h3 } := by
      intro hds' l' hk
      induction hk with
      | nil =>
        intro w
        refine wpAny_handleBy_nil ?_
        obtain ⟨k1, k2, k3, oe, vs, T, oT, ts', he, hz, hd, h1, hr⟩ := id fl3
        unfold PySem.passOn
        refine wpAny_bind (wpAny_field he hd h1 ?_)
        rw [if_neg (show ¬ ((Value.ref T == Value.none) = true) from by simp)]
        have fin : wpAny (model X.prog X.w) X.A (setFlight (.ref a) X.env.frame) (fun _ s4 => wpAny (model X.prog X.w) X.A (throw (.ref a) : Sem Flow) (SP X pins D) X.xe s4) X.xe { s' with heap := h3 } := by
          rw [hf]
          refine HandSPX.setFlight_upZ fl3 fun h4 hh4 up4 => wpAny_throw (tk _ _ ?_)
          exact ⟨a, B, sI, pins, σ', H', cls, d, rfl, J, nb, (up.trans up3).trans up4, .inr (.inr (by rw [hs]; exact hh4)), na, os, ag, w⟩
        first
          | exact wpAny_bind (wpAny_pure (wpAny_bind fin))
          | exact wpAny_bind fin
      | @cons x c ts b₀ suite np pos' hds2 l2 hc hsu r ih =>
        intro w
        obtain ⟨b, hb1, hyes, hno⟩ := w
        refine wpAny_handleBy_cons (codeAny_handlers_test ?_) (by intro q; cases q)
        have LT : PySem.W.Looks (model X.prog X.w) h3 (typeOf (.ref a)) cls := fun A Q E s k q => wpAny_typeOf_ref (k _ _ he3) (by rw [hz3.1]; exact q)
        have LM := PySem.W.exm_one (M := model X.prog X.w) (J3.kIn) LT hb1
        have test : ∀ {Q : Value → Shared → Prop} {E : Value → Shared → Prop}, Q c { s' with heap := h3 } → wpAny (model X.prog X.w) (X.A.mark (some (.ref a))) (eval (.Name x np) X.env) Q E { s' with heap := h3 } := fun {Q E} q => by
          obtain ⟨hg, hdbg, hm | ⟨hm, hv, hnn⟩⟩ := hc
          · exact ld_glob (X := X.suite a ((a, oe3) :: (X.pn ++ pins))) S3 hg hm q hdbg
          · exact ld_blt (X := X.suite a ((a, oe3) :: (X.pn ++ pins))) S3 hg hm hv q hnn hdbg
        refine test (LM.here ?_)
        cases b with
        | true =>
          refine codeAny_handlers_suite_as ?_
          refine HandSPX.lands_againZ fl3 fun h4 fl4 up4 => ?_
          have J4 : Inv X pins σ' H' { s' with heap := h4 } := J.landed nb fl4.1 ((up.trans up3).trans up4) os ag
          obtain ⟨oe4, vs4, he4, hz4, hd4⟩ := fl4.there
          have S4 := J4.suite he4 hd4 na nL nF
          refine store_ok (X := X.suite a ((a, oe4) :: (X.pn ++ pins))) (v := .ref a) S4 hN hi hloc rfl (fun s5 S5 => ?_) (.inr hln)
          refine wpAny_mono ((hsu a oe4 cls d (X.pn ++ pins) hz4 ⟨_, hd4⟩).run [] s5 _ H' _ S5 (hyes rfl a na)) (fun f s6 hsp => ?_) (fun _ _ z => False.elim z)
          have end_ : ∀ {σ6 : St} {H6 : Hp} {Q : Shared → Prop}, Inv (X.suite a ((a, oe4) :: (X.pn ++ pins))) [] σ6 H6 s6 → (∀ s7, Inv X pins (σ6.set i none) H6 s7 → Q s7) →
              wpAny (model X.prog X.w) X.A (do bindName X.env n .none; unbindBehindTheSuite X.env n pos') (fun _ s7 => Q s7) X.xe s6 := fun {σ6 H6 Q} S6 hq => gone_ok (S6.unsuite ok) hN hi hln hq
          cases f with
          | next =>
            obtain ⟨σ6, H6, S6, q6⟩ := hsp
            exact end_ S6 fun s7 J7 => ⟨_, _, J7, q6⟩
          | brk =>
            obtain ⟨σ6, H6, S6, q6⟩ := hsp
            exact end_ S6 fun s7 J7 => ⟨_, _, J7, q6⟩
          | cont =>
            obtain ⟨σ6, H6, S6, q6⟩ := hsp
            exact end_ S6 fun s7 J7 => ⟨_, _, J7, q6⟩
          | ret u =>
            obtain ⟨v6, σ6, H6, S6, r6, q6⟩ := hsp
            exact end_ S6 fun s7 J7 => ⟨_, _, _, J7, r6, q6⟩
        | false =>
          show wpAny _ X.A (handleBy (.ref a) X.env hds2) _ _ _
          exact ih (hno rfl)
    exact go hh w
  · cases f with
    | next =>
      obtain ⟨σ', H', J', q⟩ := hsp
      exact wpAny_execs_nil ⟨σ', H', J'.ofTry ok, q⟩
    | brk =>
      obtain ⟨σ', H', J', q⟩ := hsp
      exact ⟨σ', H', J'.ofTry ok, q⟩
    | cont =>
      obtain ⟨σ', H', J', q⟩ := hsp
      exact ⟨σ', H', J'.ofTry ok, q⟩
    | ret u =>
      obtain ⟨v, σ', H', J', r, q⟩ := hsp
      exact ⟨v, σ', H', J'.ofTry ok, r, q⟩
end
end Fu

/-! The heap evaluator: try .. except .. as, what is asked of the exception; Ratio. -/
noncomputable section
namespace He
open PySem L2
open PyProof.Rows hiding St
open Fu (RoomG FnG)
/-! ### one setting and another -/
structure Alike (Γ Γ' : Gm) : Prop where
  ct : Γ'.ct = Γ.ct
  fn : Γ'.fn = Γ.fn
mutual
theorem At.cg {Γ Γ' : Gm} {ω : Wd} (a : Alike Γ Γ') : ∀ {d : D} {v : V}, At Γ ω d v → At Γ' ω d v
  | .non, _, h => h
  | .bl _, _, h => h
  | .int _, _, h => h
  | .str _, _, h => h
  | .tup l, _, h => by
    obtain ⟨p, xs, hv, ha, hs⟩ := h
    exact ⟨p, xs, hv, ha, Ats.cg a hs⟩
  | .rat q, _, h => by
    obtain ⟨p, dx, hv, ha⟩ := h
    exact ⟨p, dx, hv, by rw [a.ct]; exact ha⟩
  | .loc n, _, h => h
  | .gl g, _, h => by
    show _ = V.ref (Γ'.fn g)
    rw [a.fn]
    exact h
  | .exc, _, h => h
  | .scr, _, h => by
    obtain ⟨p, ns, hv, hl, hs⟩ := h
    exact ⟨p, ns, hv, hl, by rw [a.ct]; exact hs⟩
  | .kk, _, h => h
theorem Ats.cg {Γ Γ' : Gm} {ω : Wd} (a : Alike Γ Γ') : ∀ {l : List D} {xs : List V}, Ats Γ ω l xs → Ats Γ' ω l xs
  | [], _, h => h
  | d :: l, _, h => by
    obtain ⟨x, r, hx, h1, h2⟩ := h
    exact ⟨x, r, hx, At.cg a h1, Ats.cg a h2⟩
end
theorem CAt.cg {Γ Γ' : Gm} {ω : Wd} {H : Hp} (a : Alike Γ Γ') {c : C} {p : Addr} (h : CAt Γ ω H c p) : CAt Γ' ω H c p := by
  cases c with
  | lst l => obtain ⟨xs, ha, hs⟩ := h; exact ⟨xs, ha, hs.cg a⟩
  | dic k ks l => obtain ⟨kvs, ha, hk, hs⟩ := h; exact ⟨kvs, ha, hk, hs.cg a⟩
  | dct k ks l => obtain ⟨kvs, ha, hk, hs⟩ := h; exact ⟨kvs, ha, hk, hs.cg a⟩
  | ins c l => obtain ⟨dx, fs, ha, hk, hs⟩ := h; exact ⟨dx, fs, by rw [a.ct]; exact ha, by rw [a.ct]; exact hk, hs.cg a⟩
  | pl => exact h
theorem Rp.cg {Γ Γ' : Gm} {ω : Wd} {h : Hs} {H : Hp} (a : Alike Γ Γ') (r : Rp Γ ω h H) (x : Γ'.xc ω) : Rp Γ' ω h H := ⟨r.nx, r.lim, r.sub, fun n hn => let ⟨c, hc, ha⟩ := r.cel n hn; ⟨c, hc, ha.cg a⟩, r.apt, r.inj, x⟩
/-- what is known of the handled exception -/
def XAt (Γ : Gm) (c : Nat) (d : Option D) (dd : Option Addr) (ω : Wd) : Prop := match Γ.ct.erf c, d with
  | none, none => dd = none
  | some f, some e => ∃ p v, dd = some p ∧ ω.M p = some (.xd [(f, v)]) ∧ At Γ ω e v
  | _, _ => False
theorem XAt.ex {Γ : Gm} {c : Nat} {d : Option D} {dd : Option Addr} {ω ω' : Wd} (e : Ext ω ω') (h : XAt Γ c d dd ω) : XAt Γ c d dd ω' := by
  unfold XAt at h ⊢
  split at h
  · exact h
  · obtain ⟨p, v, h1, h2, h3⟩ := h
    exact ⟨p, v, h1, e.m _ _ h2, h3.ex e⟩
  · exact h
def Gm.sui (Γ : Gm) (a : Addr) (c : Nat) (d : Option D) (dd : Option Addr) : Gm := { Γ with xa := some a, xc := fun ω => Γ.xc ω ∧ XAt Γ c d dd ω, xm := fun ω ω' e h => ⟨Γ.xm ω ω' e h.1, h.2.ex e⟩ }
theorem sui_alike (Γ : Gm) (a : Addr) (c : Nat) (d : Option D) (dd : Option Addr) : Alike Γ (Γ.sui a c d dd) := ⟨rfl, rfl⟩
theorem alike_sui (Γ : Gm) (a : Addr) (c : Nat) (d : Option D) (dd : Option Addr) : Alike (Γ.sui a c d dd) Γ := ⟨rfl, rfl⟩
/-- the exception's dict is known from now on -/
theorem Rp.sui {Γ : Gm} {a : Addr} {c : Nat} {d : Option D} {dd : Option Addr} {ω : Wd} {h : Hs} {H : Hp} (r : Rp Γ ω h H) (e : ErrAt Γ ω c d dd H) : ∃ ω', Ext ω ω' ∧ Rp (Γ.sui a c d dd) ω' h H := by
  unfold ErrAt at e
  split at e
  · rename_i h1
    exact ⟨ω, Ext.refl ω, r.cg (sui_alike ..) ⟨r.xt, by unfold XAt; rw [h1]; exact e⟩⟩
  · rename_i f e0 h1
    obtain ⟨p, v, hd, hp, hv⟩ := e
    have mm : ω.M p = none ∨ ω.M p = some (.xd [(f, v)]) := by
      cases q : ω.M p with
      | none => exact .inl rfl
      | some o =>
        have := r.sub _ _ q
        rw [hp] at this
        cases this
        exact .inr rfl
    have x : Ext ω ⟨ω.N, ω.ι, upd ω.M p (.xd [(f, v)])⟩ := by
      refine ⟨Nat.le_refl _, fun _ _ => rfl, fun b u q => ?_⟩
      show upd ω.M p _ b = some u
      by_cases z : b = p
      · subst z
        rw [upd_same]
        rcases mm with m | m
        · rw [m] at q; cases q
        · rw [← m]; exact q
      · rw [upd_ne z]; exact q
    have r2 : Rp Γ ⟨ω.N, ω.ι, upd ω.M p (.xd [(f, v)])⟩ h H := by
      refine ⟨r.nx, r.lim, fun b u q => ?_, fun n hn => ?_, fun n c' hn hc' lk => ?_, r.inj, Γ.xm _ _ x r.xt⟩
      · have q : upd ω.M p (.xd [(f, v)]) b = some u := q
        by_cases z : b = p
        · subst z
          rw [upd_same] at q
          rw [← q]
          exact hp
        · rw [upd_ne z] at q
          exact r.sub _ _ q
      · obtain ⟨c', hc', ha⟩ := r.cel n hn
        exact ⟨c', hc', ha.mv x fun _ z => z⟩
      · show upd ω.M p _ (ω.ι n) = none
        have ap := r.apt n c' hn hc' lk
        have hne : ω.ι n ≠ p := fun z => by
          have ca := r.at_ hn hc'
          rw [z] at ca
          cases c' with
          | lst l => obtain ⟨xs, ha, _⟩ := ca; rw [hp] at ha; cases ha
          | dic k ks l =>
            obtain ⟨kvs, ha, _⟩ := ca
            have lk : k = false := lk
            subst lk
            have ha : H p = some _ := ha
            rw [hp] at ha; cases ha
          | dct k ks l =>
            obtain ⟨kvs, ha, _⟩ := ca
            have lk : k = false := lk
            subst lk
            have ha : H p = some _ := ha
            rw [hp] at ha; cases ha
          | ins c l => obtain ⟨dx, fs, ha, _⟩ := ca; rw [hp] at ha; cases ha
          | pl => obtain ⟨s, t, ha, _⟩ := ca; rw [hp] at ha; cases ha
        rw [upd_ne hne]
        exact ap
    refine ⟨_, x, r2.cg (sui_alike ..) ⟨r2.xt, ?_⟩⟩
    unfold XAt
    rw [h1]
    exact ⟨p, v, hd, upd_same, hv.ex x⟩
  · exact e.elim
section
variable {X : Cx} {Γ : Gm} {W : WX} {e : Expr} {body : List Stmt} {gb : Sf} {pos p : Pos} {fo f fa : Ef} {g : Af}
/-- no exception's name is left -/
def clr1 : Option D → Option D
  | some .exc => none
  | o => o
def clr (S : Sls) : Sls := S.map clr1
def Fl.clr : Fl → Rs Fl → Rs Fl := fun fl r => match fl with
  | .xr _ _ _ => .no
  | _ => r
/-- behind a suite: slot i goes -/
def outX (i : Nat) (r : Rs Fl) : Rs Fl := match r with
  | .ok (.nx S) h => .ok (.nx (He.clr (S.set i none))) h
  | .ok (.bk S) h => .ok (.bk (He.clr (S.set i none))) h
  | .ok (.ct S) h => .ok (.ct (He.clr (S.set i none))) h
  | .ok (.rt d) h => .ok (.rt d) h
  | .ok (.xr _ _ _) _ => .no
  | .er _ _ _ => .no
  | .no => .no
  | .all n f => .all n fun j => outX i (f j)
theorem SlAt.clr {Γ Γ' : Gm} {ω : Wd} {S : Sls} {σ : St} (a : Alike Γ Γ') (h : SlAt Γ ω S σ) : SlAt Γ' ω (He.clr S) σ := by
  refine ⟨by unfold He.clr; rw [List.length_map]; exact h.1, fun j d hj => ?_⟩
  unfold He.clr at hj
  rw [List.getElem?_map] at hj
  cases q : S[j]? with
  | none => rw [q] at hj; cases hj
  | some o =>
    rw [q] at hj
    cases o with
    | none => cases hj
    | some d' =>
      cases d' with
      | exc => cases hj
      | _ =>
        cases hj
        obtain ⟨v, hv, ha⟩ := h.2 j _ q
        exact ⟨v, hv, .inl ((ha.resolve_right fun z => nomatch z.1).cg a)⟩
/-- one clause: which errors it takes, its suite for an error -/
structure Clx where
  mt : Nat → Bool
  su : Nat → Option D → Sf
def tryC (i : Nat) : List Clx → Nat → Option D → Sls → Hs → Rs Fl
  | [], c, d, S, h => .ok (.xr c d S) h
  | q :: qs, c, d, S, h => match q.mt c with
    | true => outX i (q.su c d (S.set i (some .exc)) h)
    | false => tryC i qs c d S h
def sTry (i : Nat) (gb : Sf) (qs : List Clx) : Sf := fun S h => (gb S h).bind fun fl h1 => match fl with
  | .xr c d S1 => tryC i qs c d S1 h1
  | fl => .ok fl h1
/-- what a clause's suite reads -/
def tsu (Γ : Gm) (su : Nat → Option D → Sf) : Addr → Value → Option Addr → TS := fun a cls dd E σ H => ∃ c d, cls = .ref (Γ.ct.err c) ∧ tSt (Γ.sui a c d dd) WN (su c d) E σ H
inductive Cls1 (X : Cx) (Γ : Gm) (nE : Nat) (n : Str) : List ExceptHandler → List Clx → List (Value × (Addr → Value → Option Addr → TS)) → Prop
  | nil : Cls1 X Γ nE n [] [] []
  | cons {x : Str} {cv : Value} {q : Clx} {b₀ : Stmt} {suite : List Stmt} {np pos' : Pos} {hds : List ExceptHandler} {qs : List Clx} {l : List (Value × (Addr → Value → Option Addr → TS))} (hc : Names X x cv) (hm : ∀ c, c < nE → PySem.W.exmOne X.K (.ref (Γ.ct.err c)) cv = some (q.mt c))
      (hn : ∀ c, nE ≤ c → q.mt c = false)
      (hsu : ∀ (a : Addr) (oe : Obj) (c : Nat) (d : Option D) (dd : Option Addr) (pn : List (Addr × Obj)), c < nE → Zc (.ref (Γ.ct.err c)) dd oe → (∃ vs, oe.data = .fields vs) → DSs (X.suite a ((a, oe) :: pn)) (Γ.sui a c d dd) WN (b₀ :: suite) (q.su c d)) (r : Cls1 X Γ nE n hds qs l) :
      Cls1 X Γ nE n (.ExceptHandler (some (.Name x np)) (some n) (b₀ :: suite) pos' :: hds) (q :: qs) ((cv, fun a cls dd E σ H => ∃ c d, c < nE ∧ cls = .ref (Γ.ct.err c) ∧ tSt (Γ.sui a c d dd) WN (q.su c d) E σ H) :: l)
theorem Cls1.hds {nE : Nat} {n : Str} {hds : List ExceptHandler} {qs : List Clx} {l : List (Value × (Addr → Value → Option Addr → TS))} (h : Cls1 X Γ nE n hds qs l) : Fu.HdsAs X n hds l := by
  induction h with
  | nil => exact .nil
  | cons hc hm hn hsu r ih =>
    refine .cons hc (fun a oe cls dd pn hz hf => ⟨fun pins s σ H D I h => ?_⟩) ih
    obtain ⟨c, d, hlt, rfl, q⟩ := h
    exact (hsu a oe c d dd pn hlt hz hf).run pins s σ H D I q
theorem outX_ok {i : Nat} {r : Rs Fl} {ω ω' : Wd} {E : Ends} {a : Addr} {c : Nat} {d : Option D} {dd : Option Addr} (q : OkR Γ ω WN [] (outX i r) (fEnds Γ W E)) (e : Ext ω ω') : OkR (Γ.sui a c d dd) ω' WN [] r (fEnds (Γ.sui a c d dd) WN (Fu.goes i E)) := by
  have back : ∀ {ω2 : Wd} {h2 : Hs} {H2 : Hp}, Rp (Γ.sui a c d dd) ω2 h2 H2 → Rp Γ ω2 h2 H2 := fun r => r.cg (alike_sui ..) r.xt.1
  induction r with
  | no => exact q
  | er _ _ _ => exact q.elim
  | all n f ih => exact fun i hi => ih i (q i hi)
  | ok fl h =>
    cases fl with
    | nx S => exact fun ω2 H2 e2 r2 σ sl => q ω2 H2 (e.trans e2) (back r2) _ ((SlAt.del sl).clr (alike_sui ..))
    | bk S => exact fun ω2 H2 e2 r2 σ sl => q ω2 H2 (e.trans e2) (back r2) _ ((SlAt.del sl).clr (alike_sui ..))
    | ct S => exact fun ω2 H2 e2 r2 σ sl => q ω2 H2 (e.trans e2) (back r2) _ ((SlAt.del sl).clr (alike_sui ..))
    | rt d => exact fun ω2 H2 e2 r2 v hv => q ω2 H2 (e.trans e2) (back r2) v (hv.cg (alike_sui ..))
    | xr _ _ _ => exact q.elim
theorem tryC_ok {nE i : Nat} {n : Str} {hds : List ExceptHandler} {qs : List Clx} {l : List (Value × (Addr → Value → Option Addr → TS))} (h : Cls1 X Γ nE n hds qs l) (hxa : Γ.xa = none) {c : Nat} (hc : c < nE) {d : Option D} {S : Sls} {hs : Hs} {ω : Wd} {H : Hp} {E : Ends} {x : Option Addr} {σ : St} (r : Rp Γ ω hs H)
    (k : OkR Γ ω WN [] (tryC i qs c d S hs) (fEnds Γ W E)) (sl : SlAt Γ ω S σ) (ea : ErrAt Γ ω c d x H) : Fu.wManyAs X.K i W E l (.ref (Γ.ct.err c)) x σ H := by
  induction h with
  | nil => exact k.here r x σ sl ea
  | cons hcv hm hn hsu r0 ih =>
    rename_i q _ _ _ _ _ _ _
    unfold tryC at k
    refine ⟨q.mt c, hm c hc, fun hb a ha => ?_, fun hb => ?_⟩
    · rw [hb] at k
      obtain ⟨ω', e', r'⟩ := r.sui (a := a) ea
      refine ⟨c, d, hc, rfl, ω', _, hs, ?_, r', outX_ok k e'⟩
      have sl' : SlAt (Γ.sui a c d x) ω' S σ := by
        refine ⟨sl.1, fun j z hj => ?_⟩
        obtain ⟨v, hv, hat⟩ := sl.2 j z hj
        refine ⟨v, hv, .inl ?_⟩
        rcases hat with hat | ⟨_, a', ha', _⟩
        · exact (hat.ex e').cg (sui_alike ..)
        · rw [hxa] at ha'
          cases ha'
      exact sl'.setG (.inr ⟨rfl, a, rfl, rfl⟩)
    · rw [hb] at k
      exact ih k
/-- every error that the body may raise is known -/
def xrIn (nE : Nat) : Rs Fl → Prop
  | .ok (.xr c _ _) _ => c < nE
  | _ => True
def gdE (nE : Nat) (r : Rs Fl) : Rs Fl := match r with
  | .ok (.xr c d S) h => if c < nE then .ok (.xr c d S) h else .no
  | .all n f => .all n fun i => gdE nE (f i)
  | r => r
theorem ds_try {nE i : Nat} {n : Str} {h₀ : ExceptHandler} {hds : List ExceptHandler} {qs : List Clx} {l : List (Value × (Addr → Value → Option Addr → TS))} (h : Cls1 X Γ nE n (h₀ :: hds) qs l) (hxa : Γ.xa = none) (hs : X.stack = X.env :: X.outer) (hf : X.env.frame = some X.env.locals) (hN : X.N.Nodup) (hi : X.N[i]? = some n) (hln : X.env.kindOf n = some .local) (tk : Takes X W)
    (hb : ∀ (W : WX) (pn : List (Addr × Obj)) (xe : Value → Shared → Prop), Takes (X.tr pn xe) W → PassesOwn (model X.prog X.w) X.A X.env xe → DSs (X.tr pn xe) Γ W body gb) : DS X Γ W (.Try body (h₀ :: hds) [] [] pos) (sTry i (fun S h => gdE nE (gb S h)) qs) := by
  refine Mi.PS.mono (Fu.ps_try_manyAs (tb := fun W => tSt Γ W gb) hs hf hN hi hln tk hb h.hds) fun E σ H ⟨ω, S, hh, sl, r, k⟩ => ⟨ω, S, hh, sl, r, ?_⟩
  unfold sTry at k
  have k : OkR Γ ω WN [] ((gdE nE (gb S hh)).bind fun fl h1 => match fl with
    | .xr c d S1 => tryC i qs c d S1 h1
    | fl => .ok fl h1) (fEnds Γ W E) := k
  generalize gb S hh = q at k
  induction q with
  | no => exact k.elim
  | er c d h1 => exact fun ω1 x H1 e1 r1 z => k ω1 x H1 e1 r1 z
  | all n f ih => exact fun i hi => ih i (k i hi)
  | ok fl h1 =>
    cases fl with
    | nx S1 => exact k
    | bk S1 => exact k
    | ct S1 => exact k
    | rt d => exact k
    | xr c d S1 =>
      dsimp only [gdE] at k
      split at k
      · rename_i hc
        intro ω1 H1 e1 r1 x σ1 sl1 ea
        exact tryC_ok h hxa hc r1 (OkR.ex (show OkR Γ ω WN [] (tryC i qs c d S1 h1) (fEnds Γ W E) from k) e1) sl1 ea
      · exact k.elim
/-! ### in a suite -/
variable {a : Addr} {oe : Obj} {c : Nat} {d : Option D} {dd : Option Addr} {pn : List (Addr × Obj)} {n : Str}
/-- e.f -/
def fXf (i : Nat) (o : Option D) : Ef := fun S h => match S[i]?, o with
  | some (some .exc), some d => .ok d h
  | _, _ => .no
theorem tVar_exc {i : Nat} {a : Addr} {S : Sls} {σ : St} {ω : Wd} (sl : SlAt (Γ.sui a c d dd) ω S σ) (hS : S[i]? = some (some .exc)) : σ[i]? = some (some (.ref a)) := by
  obtain ⟨v, hv, hat⟩ := sl.2 i _ hS
  rcases hat with hat | ⟨_, a', ha', rfl⟩
  · exact hat.elim
  · cases ha'
    exact hv
theorem de_xf {i : Nat} {f : Str} (T : XfC X.K (Γ.ct.err c)) (hno : PySem.W.findIn X.K (.ref (Γ.ct.err c)) f = some none) (hef : Γ.ct.erf c = some f) (hz : Zc (.ref (Γ.ct.err c)) dd oe) (hf : ∃ vs, oe.data = .fields vs) (he : PE (X.suite a ((a, oe) :: pn)) e (tVar i)) (hb : attributeBase e f X.env (eval e X.env) = eval e X.env) :
    DE (X.suite a ((a, oe) :: pn)) (Γ.sui a c d dd) W (.Attribute e f pos) (fXf i d) := Mi.PE.mono (pe_xf T hno hz hf he hb) fun σ H Q ⟨ω, S, h, sl, r, k⟩ => by
  unfold fXf at k
  split at k
  · have hS : S[i]? = some (some .exc) := by assumption
    have hσ := tVar_exc sl hS
    have z := r.xt.2
    unfold XAt at z
    rw [hef] at z
    obtain ⟨p, v, hp, hm, hv⟩ := z
    exact ⟨_, hσ, rfl, rfl, p, _, v, hp, r.sub _ _ hm, by simp [List.lookup], k.here r v (hv.cg (sui_alike ..))⟩
  · exact k.elim
/-- isinstance(e, T) -/
def fXi (i : Nat) (b : Bool) : Ef := fun S h => match S[i]? with
  | some (some .exc) => .ok (.bl b) h
  | _ => .no
theorem de_xi {i : Nat} {b : Bool} {cv : V} {u : Value} {e2 : Expr} (T : ExcC X.K (Γ.ct.err c)) (hk : PySem.W.kitOne X.K (.ref (Γ.ct.err c)) u = some b) (hcv : ClsV cv u) (hz : Zc (.ref (Γ.ct.err c)) dd oe) (hf : ∃ vs, oe.data = .fields vs) (hm : X.mg "isinstance" = none) (hg : Gl X "isinstance")
    (he : PE (X.suite a ((a, oe) :: pn)) e (tVar i)) (hc : PE (X.suite a ((a, oe) :: pn)) e2 (tC cv)) (hef : Γ.ct.erf c ≠ none) (hs : starEach [e, e2] X.env = (false, eval e X.env) :: starEach [e2] X.env) (hs2 : starEach [e2] X.env = (false, eval e2 X.env) :: starEach [] X.env) (hpl : (backTo pos (starEach [e2] X.env)).any (·.1) = false) :
    DE (X.suite a ((a, oe) :: pn)) (Γ.sui a c d dd) W (.Call (.Name "isinstance" p) [e, e2] [] pos) (fXi i b) := by
  refine Mi.PE.mono (pe_callB (Fu.call_isX T hz hf) hg hm (by decide +kernel) (pa_cons he (pa_cons hc pa_nil hs2) hs) (by decide) (by decide) hs hpl) fun σ H Q ⟨ω, S, h, sl, r, k⟩ => ?_
  unfold fXi at k
  split at k
  · have hS : S[i]? = some (some .exc) := by assumption
    have hσ := tVar_exc sl hS
    have z := r.xt.2
    unfold XAt at z
    cases q : Γ.ct.erf c with
    | none => exact absurd q hef
    | some f =>
      rw [q] at z
      cases d with
      | none => exact z.elim
      | some d0 =>
        obtain ⟨p, v, hp, hm, hv⟩ := z
        exact ⟨_, hσ, cv, u, b, p, _, rfl, hcv, rfl, hp, r.sub _ _ hm, hk, k.here r _ rfl⟩
  · exact k.elim
end
end He
end

/-! The heap evaluator: Ratio(n, m), its fields; in by an own __contains__; what is never reached. -/
noncomputable section
namespace He
open PySem L2
open PyProof.Rows hiding St
open Fu (RoomG FnG)
section
variable {X : Cx} {Γ : Gm} {W : WX} {e a b o : Expr} {es : List Expr} {fa fb fo : Ef} {g : Af} {pos p : Pos}
/-! ### what is never reached -/
def fBad : Ef := fun _ _ => .no
theorem de_bad : DE X Γ W e fBad := ⟨fun pins s σ H Q I ⟨ω, S, h, sl, r, k⟩ => k.elim⟩
def sBad : Sf := fun _ _ => .no
theorem ds_bad {st : Stmt} : DS X Γ W st sBad := ⟨fun pins s σ H D I ⟨ω, S, h, sl, r, k⟩ => k.elim⟩
/-! ### Ratio(n, m) -/
def fuOk (h : Hs) (d : D) : Bool := ((rei h 20 d).bind Mi.toFu).isSome
def ratMk (ci : Nat) (t b : D) (h : Hs) : Rs D := match t, b with
  | .int n, .int m => if m = 0 then .er ci (some (.int 0)) h else if m.natAbs.log2 < 9000 then .ok (.rat (Rat.divInt n m)) h else .no
  | .int _, b => if fuOk h b = true then .er ci (some b) h else .no
  | t, b => if (fuOk h t && fuOk h b) = true then .er ci (some t) h else .no
theorem fuOk_at {ω : Wd} {h : Hs} {H : Hp} {d : D} {v : V} (r : Rp Γ ω h H) (hv : At Γ ω d v) (e : fuOk h d = true) : ∃ d', Fu.At Γ.ct.R H d' v ∧ (Fu.isInt d' = true ↔ ∃ i, d = .int i) ∧ ∀ i, d = .int i → d' = .int i := by
  unfold fuOk at e
  cases q : rei h 20 d with
  | none => rw [q] at e; cases e
  | some m =>
    rw [q] at e
    cases q2 : Mi.toFu m with
    | none => simp [q2] at e
    | some d' =>
      refine ⟨d', Mi.toFu_at q2 (rei_at r q hv), ?_, fun i hi => ?_⟩
      · constructor
        · intro z
          cases d with
          | int i => exact ⟨i, rfl⟩
          | _ =>
            exfalso
            have : Fu.isInt d' = false := Mi.isInt_toFu q2 fun i hi => by
              subst hi
              unfold rei at q
              first
              | (cases q; done)
              | (obtain ⟨xs, _, z⟩ := Option.map_eq_some_iff.mp q; cases z; done)
              | (dsimp only at q
                 split at q
                 · obtain ⟨xs, _, z⟩ := Option.map_eq_some_iff.mp q; cases z
                 · obtain ⟨xs, _, z⟩ := Option.map_eq_some_iff.mp q; cases z
                 · cases q)
            rw [this] at z
            cases z
        · rintro ⟨i, rfl⟩
          unfold rei at q
          cases q
          cases q2
          rfl
      · subst hi
        unfold rei at q
        cases q
        cases q2
        rfl
theorem ratMk_ok {ci : Nat} {t e : D} {vt vb : V} {ω : Wd} {h : Hs} {H : Hp} {σ : St} {Q : VK} (ef : Γ.ct.erf ci = some "value") (r : Rp Γ ω h H) (ht : At Γ ω t vt) (hb : At Γ ω e vb)
    (k : OkR Γ ω W σ (ratMk ci t e h) fun ω' d _ H' => ∀ v, At Γ ω' d v → Q v H') (x dx : Addr) (nx : H x = none) (nd : H dx = none) (ne : dx ≠ x) :
    Fu.spInit Γ.ct.R (Γ.ct.err ci) [.ref x, vt, vb] (upd (upd H dx (.own x)) x (.ins Γ.ct.R dx [])) (fun v H2 => v = .non ∧ Q (.ref x) H2) (WE W σ) := by
  have sH : Same H (upd (upd H dx (.own x)) x (.ins Γ.ct.R dx [])) := fun b u e => by
    rw [upd_ne (ne_of_none e nx), upd_ne (ne_of_none e nd)]
    exact e
  have r2 := r.same sH
  have er : ∀ (d : D) (v : V), At Γ ω d v → ratMk ci t e h = .er ci (some d) h → ∀ q, upd (upd H dx (.own x)) x (.ins Γ.ct.R dx []) q = none → W (.ref (Γ.ct.err ci)) (some q) σ (upd (upd (upd H dx (.own x)) x (.ins Γ.ct.R dx [])) q (.xd [("value", v)])) := by
    intro d v hd he q hq
    rw [he] at k
    refine k ω (some q) _ (Ext.refl ω) (r2.same (same_new hq)) ?_
    unfold ErrAt
    rw [ef]
    exact ⟨q, v, rfl, upd_same, hd⟩
  have hint : ∀ i, t = .int i → ∃ d', Fu.At Γ.ct.R (upd (upd H dx (.own x)) x (.ins Γ.ct.R dx [])) d' vt ∧ d' = .int i := fun i hi => by
    subst hi
    obtain rfl := ht
    exact ⟨.int i, rfl, rfl⟩
  have conv : ∀ {d : D} {v : V}, At Γ ω d v → (fuOk h d = true ∨ ∃ i, d = .int i) → ∃ d', Fu.At Γ.ct.R (upd (upd H dx (.own x)) x (.ins Γ.ct.R dx [])) d' v ∧ (Fu.isInt d' = true ↔ ∃ i, d = .int i) ∧ ∀ i, d = .int i → d' = .int i := by
    intro d v hv ho
    rcases ho with ho | ⟨i, rfl⟩
    · exact fuOk_at r2 hv ho
    · obtain rfl := hv
      exact ⟨.int i, rfl, ⟨fun _ => ⟨i, rfl⟩, fun _ => rfl⟩, fun j hj => by cases hj; rfl⟩
  have okt : fuOk h t = true ∨ ∃ i, t = .int i := by
    unfold ratMk at k
    split at k
    · exact .inr ⟨_, rfl⟩
    · exact .inr ⟨_, rfl⟩
    · split at k
      · rename_i z
        rw [Bool.and_eq_true] at z
        exact .inl z.1
      · exact k.elim
  have oke : fuOk h e = true ∨ ∃ i, e = .int i := by
    unfold ratMk at k
    split at k
    · exact .inr ⟨_, rfl⟩
    · split at k
      · exact .inl (by assumption)
      · exact k.elim
    · split at k
      · rename_i z
        rw [Bool.and_eq_true] at z
        exact .inl z.2
      · exact k.elim
  obtain ⟨t', at1, i1, j1⟩ := conv ht okt
  obtain ⟨e', at2, i2, j2⟩ := conv hb oke
  have nint : ∀ {d : D} {d' : Fu.D}, (Fu.isInt d' = true ↔ ∃ i, d = .int i) → Fu.isInt d' = false → ∀ i, d ≠ .int i := fun {d d'} q z i hi => by
    rw [q.mpr ⟨i, hi⟩] at z
    cases z
  refine ⟨x, dx, vt, vb, t', e', rfl, upd_same, at1, at2, fun z q hq => er t vt ht ?_ q hq, fun z w q hq => er e vb hb ?_ q hq, fun n m e1 e2 hm => ?_⟩
  · have nt := nint i1 z
    have ho : (fuOk h t && fuOk h e) = true ∨ ratMk ci t e h = .er ci (some t) h := by
      unfold ratMk at k ⊢
      split at k
      · exact absurd rfl (nt _)
      · exact absurd rfl (nt _)
      · split at k
        · rename_i y
          rw [if_pos y]
          exact .inr rfl
        · exact k.elim
    rcases ho with ho | ho
    · unfold ratMk
      split
      · exact absurd rfl (nt _)
      · exact absurd rfl (nt _)
      · rw [if_pos ho]
    · exact ho
  · obtain ⟨n, rfl⟩ := i1.mp z
    rcases w with w | w
    · have nt := nint i2 w
      unfold ratMk at k ⊢
      split at k
      · exact absurd rfl (nt _)
      · split at k
        · rename_i y
          rw [if_pos y]
        · exact k.elim
      · rename_i y1 y2
        exact (y1 n rfl).elim
    · have : Fu.isInt e' = true := by rw [w]; rfl
      obtain ⟨m, rfl⟩ := i2.mp this
      have := j2 m rfl
      rw [w] at this
      cases this
      simp [ratMk]
  · have et : ∃ i, t = .int i := i1.mp (by rw [e1]; rfl)
    have ee : ∃ i, e = .int i := i2.mp (by rw [e2]; rfl)
    obtain ⟨i, rfl⟩ := et
    obtain ⟨j, rfl⟩ := ee
    have := j1 i rfl
    rw [e1] at this
    cases this
    have := j2 j rfl
    rw [e2] at this
    cases this
    have e0 : ratMk ci (.int n) (.int m) h = if m.natAbs.log2 < 9000 then .ok (.rat (Rat.divInt n m)) h else .no := by simp [ratMk, hm]
    rw [e0] at k
    split at k
    · rename_i hl
      refine ⟨hl, rfl, ?_⟩
      refine (Mi.new_rat (Γ := Γ.ct) (q := Rat.divInt n m) (Q := Q) r.sub hm (Mi.div_cross hm) fun v H' post => ?_).new hm x dx _ (Fu.made_same nx nd ne) nx upd_same
      obtain ⟨ω', x', r', ha⟩ := post_out (d := .rat (Rat.divInt n m)) r rfl post
      exact (k.there x' r') v ha
    · exact k.elim
def fRat2 (ci : Nat) (g : Af) : Ef := fun S h => (g S h).bind fun ds h1 => match ds with
  | [t, b] => ratMk ci t b h1
  | _ => .no
def fRat1 (ci : Nat) (g : Af) : Ef := fun S h => (g S h).bind fun ds h1 => match ds with
  | [t] => ratMk ci t (.int 1) h1
  | _ => .no
structure RatH (X : Cx) (Γ : Gm) (ci : Nat) : Prop where
  ex : ∃ (f : Addr) (fd : FuncData) (ds : List Value), Fu.RatM X.prog X.w X.K X.mg X.base Γ.ct.R (Γ.ct.err ci) f fd ds
  g : X.mg "Ratio" = some (.ref Γ.ct.R)
  ef : Γ.ct.erf ci = some "value"
theorem de_ratio2 {ci : Nat} (D1 : RatH X Γ ci) (hr : Room 4 X.A) (tk : Takes X W) (ha : DA X Γ W [a, b] g) (hg : Gl X "Ratio")
    (he : starEach [a, b] X.env = (false, eval a X.env) :: starEach [b] X.env) (hpl : (backTo pos (starEach [b] X.env)).any (·.1) = false) : DE X Γ W (.Call (.Name "Ratio" p) [a, b] [] pos) (fRat2 ci g) := by
  obtain ⟨f, fd, ds, M⟩ := D1.ex
  refine Mi.PE.mono (Fu.pe_makeS (E := WE W) M.m M.ok hr hg D1.g M.b2 .nil (fun σ => passAt tk σ) ha (by decide) he hpl) fun σ H Q ⟨ω, S, h, sl, r, k⟩ => ⟨ω, S, h, sl, r, ?_⟩
  refine k.step fun ω1 ds h1 H1 e1 r1 k1 vs hs x dx nx nd ne => ?_
  match ds, hs, k1 with
  | [t, b], hs, k =>
    obtain ⟨v1, vr, rfl, h1, v2, vr2, rfl, h2', h3⟩ := hs
    obtain rfl := h3
    exact ratMk_ok D1.ef r1 h1 h2' k x dx nx nd ne
  | [], _, k => exact k.elim
  | [_], _, k => exact k.elim
  | _ :: _ :: _ :: _, _, k => exact k.elim
theorem de_ratio1 {ci : Nat} (D1 : RatH X Γ ci) (hr : Room 4 X.A) (tk : Takes X W) (ha : DA X Γ W [a] g) (hg : Gl X "Ratio")
    (he : starEach [a] X.env = (false, eval a X.env) :: starEach [] X.env) (hpl : (backTo pos (starEach [] X.env)).any (·.1) = false) : DE X Γ W (.Call (.Name "Ratio" p) [a] [] pos) (fRat1 ci g) := by
  obtain ⟨f, fd, ds, M⟩ := D1.ex
  refine Mi.PE.mono (Fu.pe_makeS (E := WE W) M.m M.ok hr hg D1.g M.b1 M.d1 (fun σ => passAt tk σ) ha (by decide) he hpl) fun σ H Q ⟨ω, S, h, sl, r, k⟩ => ⟨ω, S, h, sl, r, ?_⟩
  refine k.step fun ω1 ds h1 H1 e1 r1 k1 vs hs x dx nx nd ne => ?_
  match ds, hs, k1 with
  | [t], hs, k =>
    obtain ⟨v1, vr, rfl, h1, h3⟩ := hs
    obtain rfl := h3
    exact ratMk_ok (e := .int 1) (vb := .int 1) D1.ef r1 h1 (show V.int 1 = V.int 1 from rfl) k x dx nx nd ne
  | [], _, k => exact k.elim
  | _ :: _ :: _, _, k => exact k.elim
/-! ### fields of a Ratio: own_top, own_bottom; top, bottom -/
def ratPart (top : Bool) : D → Option D
  | .rat q => some (.int (if top then q.num else q.den))
  | _ => none
def s1rat (top : Bool) : S1 := fun d h => lift h (ratPart top d)
theorem rat_lk (top : Bool) (q : Rat) : (Fu.rf q.num q.den).lookup (if top then ("own_top" : Str) else "own_bottom") = some (.int (if top then q.num else q.den)) := by
  cases top with
  | true => exact Fu.rf_top _ _
  | false => exact Fu.rf_bot _ _
theorem de_rfld {top : Bool} (c : Cls X.K Γ.ct.R) (na : NoAttr X.K Γ.ct.R (if top then ("own_top" : Str) else "own_bottom")) (ho : DE X Γ W o fo) (hb : attributeBase o (if top then ("own_top" : Str) else "own_bottom") X.env (eval o X.env) = eval o X.env) : DE X Γ W (.Attribute o (if top then ("own_top" : Str) else "own_bottom") pos) (fU (pS1 (s1rat top)) fo) :=
  Mi.PE.mono (pe_fld ho hb) fun σ H Q q => fU_ok (R := fun x H Q => ∃ a C dx fs v, x = .ref a ∧ H a = some (.ins C dx fs) ∧ Cls X.K C ∧ NoAttr X.K C (if top then ("own_top" : Str) else "own_bottom") ∧ fs.lookup (if top then ("own_top" : Str) else "own_bottom") = some v ∧ Q v H) (fun ω h H x d Q r hx k => by
    obtain ⟨z, hz, k⟩ := k.lift
    cases d with
    | rat q =>
      cases hz
      obtain ⟨a, dx, rfl, ha⟩ := hx
      exact ⟨a, _, dx, _, _, rfl, r.sub _ _ ha, c, na, rat_lk top q, k.here r _ rfl⟩
    | _ => cases hz) σ H Q q
theorem de_rprop {top : Bool} (c : Cls X.K Γ.ct.R) (D1 : Mi.RpD X Γ.ct (if top then ("top" : Str) else "bottom") (if top then ("own_top" : Str) else "own_bottom")) (hr : Room 2 X.A) (ho : DE X Γ W o fo) (hab : attributeBase o (if top then ("top" : Str) else "bottom") X.env (eval o X.env) = eval o X.env) :
    DE X Γ W (.Attribute o (if top then ("top" : Str) else "bottom") pos) (fU (pS1 (s1rat top)) fo) := by
  obtain ⟨pb, fb, fd, P1, F1, b1⟩ := D1.ex
  refine Mi.PE.mono (pe_prop (E := E0) (dvs := []) ho c P1 F1 hr b1 .nil pass0 hab) (fU_ok (R := fun x H Q => ∃ a dx fs, x = .ref a ∧ H a = some (.ins Γ.ct.R dx fs) ∧ getSp Γ.ct.R (if top then ("own_top" : Str) else "own_bottom") [.ref a] H Q E0) fun ω h H x d Q r hx k => ?_)
  obtain ⟨z, hz, k⟩ := k.lift
  cases d with
  | rat q =>
    cases hz
    obtain ⟨a, dx, rfl, ha⟩ := hx
    exact ⟨a, dx, _, rfl, r.sub _ _ ha, a, dx, _, _, rfl, r.sub _ _ ha, rat_lk top q, k.here r _ rfl⟩
  | _ => cases hz
/-! ### x in o, o with an own __contains__ -/
structure AskH (X : Cx) (Γ : Gm) (c k : Nat) (m : Str) (ps : List Str) (G : Gf) : Prop where
  ex : ∃ f : Addr, FnH X Γ k f ps G ∧ PySem.W.findIn X.K (.ref (Γ.ct.cls c)) m = some (some (.ref f)) ∧ PySem.W.isFn X.K (.ref f) = true
/-- a callee that lets nothing out -/
theorem run_atG {A : Around} {k : Nat} {f : Addr} {fd : FuncData} {ps : List Str} {sp : Sp} {pins : List (Addr × Obj)} {σ : St} {H : Hp} {s : Shared} {Q : VK} {us : List Value} {vs : List V} (F1 : FnG X.prog X.w X.K X.mg X.base (L2.CX X.prog X.w) k f fd ps sp)
    (hr : RoomG k A) (hf : A.frames = some X.stack) (hb : Binds X.K fd ps []) (I : Inv X pins σ H s) (r : Vals vs us) (h : sp vs H Q (fun _ _ _ => False)) : wpAny (model X.prog X.w) A (call (.ref f) us) (EP X pins σ Q) X.xe s := by
  have e := I.env0
  have b := hb s us I.kIn (by rw [List.append_nil, ← r.length]; exact F1.len _ _ _ _ h)
  rw [List.append_nil] at b
  refine wpAny_call (codeAny_mono (F1.run A X.stack s H ⟨us, []⟩ us vs Q _ hr ⟨hf, e.mod, e.bs, e.bsz, e.funs, e.frf, e.hok, e.bare⟩ b r h) fun z s' hq => ?_)
  cases z with
  | error e => exact Mi.passesF pins σ H s e s' I hq
  | ok fl =>
    cases fl with
    | ret u => exact I.after hq
    | next => exact False.elim hq
    | brk => exact False.elim hq
    | cont => exact False.elim hq
def s2inO (c : Nat) (G : Gf) : S2 := fun d e h => match insOf h e with
  | some (c', _) => if c' = c then (pur (G [e, d] h)).bind fun z h1 => match z with
    | .bl b => .ok (.bl b) h1
    | _ => .no else .no
  | none => .no
theorem od_inO {c k : Nat} {ps : List Str} {G : Gf} (E1 : AskH X Γ c k "__contains__" ps G) (hr : RoomG k X.A) : OpH X Γ (compareOp .In) (s2inO c G) := by
  obtain ⟨f, ⟨fd, F1, hb⟩, h1, h2⟩ := E1.ex
  refine ⟨Mi.rInO (Γ.ct.cls c) false (spH Γ G), fun pins s σ H x y u v Q I rx ry h => ?_, fun ω h H x y d e Q r hx hy k => ?_⟩
  · obtain ⟨a, dx, fs, rfl, ha, q⟩ := h
    obtain rfl : v = Value.ref a := ry
    obtain ⟨od, J⟩ := Fu.inst_of I ha
    obtain ⟨m, hF⟩ := I.fr
    refine PySem.W.in_K hF I.ok.mod.kin J h1 h2 ?_
    refine thn (run_atG (A := X.A) (us := [.ref a, u]) (vs := [.ref a, x]) F1 hr I.ok.frames hb I (.cons rfl (.cons rx .nil)) q) fun z s' hh => ?_
    obtain ⟨v', H', I', rv, c, rfl, q'⟩ := hh
    obtain rfl : z = Value.bool c := rv
    exact wpAny_truthy_bool ⟨.bl c, H', I', rfl, q'⟩
  · unfold s2inO at k
    split at k
    · rename_i c' l hi
      split at k
      · rename_i hc
        subst hc
        obtain ⟨a, dx, fs, rfl, ha, hk, hs⟩ := insOf_at r hy hi
        refine ⟨a, dx, fs, rfl, ha, ω, h, [e, d], r, ⟨_, _, rfl, hy, _, _, rfl, hx, rfl⟩, ?_⟩
        refine OkR.pur (W := WN) (σ := []) (k.step fun ω1 z h1 H1 e1 r1 k1 v hv => ?_)
        split at k1
        · obtain rfl := hv
          exact ⟨_, rfl, k1.here r1 _ rfl⟩
        · exact k1.elim
      · exact k.elim
    · exact k.elim
end
end He
end

namespace Fu
open PySem L2
open PyProof.Rows hiding St
open L2H (RoomH roomH_of)
structure Bu (mg : Str → Option Value) : Prop where
  len : mg "len" = none
  abs : mg "abs" = none
  int : mg "int" = none
section
variable {P : Program} {w : World} {K : PySem.W.Frag} {mg : Str → Option Value} {base : Heap} {C : Addr}
/-! ### the pool -/
theorem b01 (b : Bool) : -(2 ^ 64 : Int) < (if b = true then 1 else 0) ∧ (if b = true then (1 : Int) else 0) < 2 ^ 64 ∧ (0 : Int) ≤ (if b = true then 1 else 0) := by cases b <;> decide
def spPool (K : PySem.W.Frag) : Sp := fun vs H Q _ => ∃ (a : Addr) (ns : List Int) (k : Nat), vs = [.ref a, .int k] ∧ SqL K H a (ns.map V.int) ∧ k ≤ 63 ∧
  ∀ (p : Addr) (x y : Int), H p = none → 0 ≤ x → 0 ≤ y → Q (.ref p) (upd H p (.lst [.int x, .int y]))
theorem scPool : FnScope ["_law_script", "_law_k", "_law_cell", "_law_size", "_law_seed"] ["_law_script", "_law_k"] (defScope sPool) := ⟨rfl, rfl, rfl, by decide +kernel, rfl, by decide +kernel, by decide +kernel⟩
theorem ok_pool {f : Addr} {fd : FuncData} (F : Fun K "_law_pool" "_law_pool" sPool f fd) (B : Bu mg) : FnOk P w K mg base CX0 1 f fd ["_law_script", "_law_k"] (spPool K) := by
  refine F.ok scPool (fun vs H Q E h => ?_) (fun cdv A outer s H vs Q E hr h => ?_)
  · obtain ⟨a, ns, k, rfl, _⟩ := h
    rfl
  · obtain ⟨a, ns, k, rfl, hS, hk, kQ⟩ := h
    refine ⟨_, pss_cons (ps_set (i := 2) scPool.nd rfl (Or.inl rfl) pe_int)
      (Evl.pss_cut (ps_if (pt_cmpR op_lt (pv 1) (pe_callB call_len_seq (by rfl) B.len PySem.boot_len (pa_cons (pv 0) pa_nil)) (nomark _)) (pss_one (ps_set (i := 2) scPool.nd rfl (Or.inl rfl) (pe_ix ix_list (pv 0) (pv 1) (fun _ _ => rfl)))) pss_nil)
      (pss_cons (ps_set (i := 3) scPool.nd rfl (Or.inl rfl) (pe_callB call_abs (by rfl) B.abs (by decide +kernel) (pa_cons (pv 2) pa_nil)))
      (pss_cons (ps_set (i := 4) scPool.nd rfl (Or.inl rfl) (pe_op op_mod (pe_op op_pow (pe_op op_add (pe_op op_add (pe_op op_add (pe_op op_mod (pv 2) pe_int) (pe_op op_mul (pe_op op_mul pe_int (pv 1)) (pv 1))) (pe_op op_mul pe_int (pv 1))) pe_int) pe_int) pe_int))
      (pss_one (ps_ret (pe_lst (pa_cons (pe_op op_mul (pv 3) (pe_callTy call_int1 (by rfl) B.int (by decide +kernel) (pa_cons (pe_cmpR op_ge (pv 3) (pe_op op_pow pe_int pe_int) (nomark _)) pa_nil))) (pa_cons (pv 4) pa_nil)))))))), ?_⟩
    refine ⟨fun σ' H' => H' = H ∧ ∃ c : Int, σ' = [some (.ref a), some (.int k), some (.int c), none, none], ?_, ?_⟩
    · refine ⟨_, rfl, _, rfl, a, _, rfl, .inl hS, _, _, rfl, rfl, _, rfl, ?_⟩
      by_cases hlt : k < ns.length
      · refine if_true_of (by simpa using hlt) ⟨_, rfl, _, rfl, a, _, _, .int (ns[k]'hlt), rfl, rfl, hS, ?_, rfl, _, rfl⟩
        rw [atI_nat (j := k) (v := .int (ns[k]'hlt))]
        simp [hlt]
      · exact if_false_of (by simpa using hlt) ⟨rfl, 0, rfl⟩
    · rintro σ' H' ⟨rfl, c, rfl⟩
      have hm := Int.emod_nonneg c (show (2147483629 : Int) ≠ 0 by decide)
      have hM := Int.emod_lt_of_pos c (show (0 : Int) < 2147483629 by decide)
      have hkk : (104729 : Int) * k * k ≤ 104729 * 63 * 63 := by
        have h1 : (k : Int) ≤ 63 := by omega
        have h2 : (104729 : Int) * k ≤ 104729 * 63 := by omega
        exact Int.mul_le_mul h2 h1 (by omega) (by omega)
      have hk0 : (0 : Int) ≤ 104729 * k * k := Int.mul_nonneg (by omega) (by omega)
      refine ⟨_, rfl, _, rfl, ?_⟩
      refine ⟨_, rfl, _, _, rfl, rfl, (by show (0 : Int) < 2147483629; decide), _, rfl, _, _, rfl, rfl, .inl ⟨by decide, by decide⟩, _, rfl, _, _, rfl, rfl, .inr ⟨by omega, by omega⟩, _, _, rfl, rfl, _, rfl, _, _, rfl, rfl, .inl ⟨by decide, by decide⟩, _, _, rfl, rfl, _, _, rfl, rfl, _, _, rfl, rfl,
        ⟨by decide, by decide, by omega⟩, _, _, rfl, rfl, (by show (0 : Int) < 2147483647; decide), ?_⟩
      refine ⟨_, rfl, _, rfl, _, _, rfl, rfl, ⟨by decide, by decide, by decide⟩, _, _, rfl, rfl, .inr ⟨_, rfl, _, _, rfl, rfl, .inr ⟨(b01 _).1, (b01 _).2.1⟩, _, rfl, (by show 2 ≤ sizeLine; decide), fun p hp => ?_⟩⟩
      refine kQ p _ _ hp (Int.mul_nonneg (by split <;> omega) (b01 _).2.2) (Int.emod_nonneg _ (by decide))
/-! ### the draws -/
def spTake : Sp := fun vs H Q _ => ∃ (p : Addr) (x y m : Int), vs = [.ref p, .int m] ∧ H p = some (.lst [.int x, .int y]) ∧ 0 ≤ x ∧ 0 ≤ y ∧ 0 < m ∧ m.natAbs.log2 < 9000 ∧
  ∀ (x' y' r : Int), 0 ≤ x' → 0 ≤ y' → 0 ≤ r → r < m → Q (.int r) (upd H p (.lst [.int x', .int y']))
theorem scTake : FnScope ["_law_pool_here", "_law_many", "_law_found"] ["_law_pool_here", "_law_many"] (defScope sTake) := ⟨rfl, rfl, rfl, by decide +kernel, rfl, by decide +kernel, by decide +kernel⟩
theorem ok_take {f : Addr} {fd : FuncData} (F : Fun K "_law_take" "_law_take" sTake f fd) : FnOk P w K mg base CX0 1 f fd ["_law_pool_here", "_law_many"] spTake := by
  refine F.ok scTake (fun vs H Q E h => ?_) (fun cdv A outer s H vs Q E hr h => ?_)
  · obtain ⟨p, x, y, m, rfl, _⟩ := h
    rfl
  · obtain ⟨p, x, y, m, rfl, hp, hx, hy, hm, hl, k⟩ := h
    have it0 : atI [V.int x, V.int y] 0 = some (.int x) := rfl
    refine ⟨_, pss_cons (ps_if (pt_cmpR op_gt (pe_ix ix_list (pv 0) pe_int (fun _ _ => rfl)) pe_int (nomark _))
        (pss_cons (ps_set (i := 2) scTake.nd rfl (Or.inl rfl) (pe_op op_mod (pe_ix ix_list (pv 0) pe_int (fun _ _ => rfl)) (pv 1)))
        (pss_cons (ps_asg (pe_op op_fdivB (pe_ix ix_list (pv 0) pe_int (fun _ _ => rfl)) (pv 1)) (pg_sub (pv 0) pe_int set_list))
        (pss_one (ps_ret (pv 2))))) pss_nil)
      (pss_cons (ps_asg (pe_op op_mod (pe_op op_add (pe_op op_mul (pe_ix ix_list (pv 0) pe_int (fun _ _ => rfl)) pe_int) pe_int) pe_int) (pg_sub (pv 0) pe_int set_list))
      (pss_one (ps_ret (pe_op op_mod (pe_op op_fdiv (pe_op op_mod (pe_op op_mulW (pe_ix ix_list (pv 0) pe_int (fun _ _ => rfl)) (pe_ix ix_list (pv 0) pe_int (fun _ _ => rfl))) pe_int) pe_int) (pv 1))))), ?_⟩
    refine ⟨_, rfl, p, _, _, _, rfl, rfl, SqL.of hp, rfl, _, _, rfl, rfl, _, rfl, ?_⟩
    by_cases h0 : 0 < x
    · refine if_true_of (by simpa using h0) ⟨_, rfl, p, _, _, _, rfl, rfl, SqL.of hp, rfl, _, rfl, _, _, rfl, rfl, hm, ?_⟩
      refine ⟨_, rfl, p, _, _, _, rfl, rfl, SqL.of hp, rfl, _, rfl, _, _, rfl, rfl, ⟨by omega, hl⟩, ?_⟩
      refine ⟨_, rfl, p, _, _, 0, rfl, rfl, hp, rfl, _, rfl, ?_⟩
      exact k _ _ _ (by rw [Int.fdiv_eq_ediv_of_nonneg _ (by omega)]; exact Int.ediv_nonneg hx (by omega)) hy (Int.emod_nonneg _ (by omega)) (Int.emod_lt_of_pos _ hm)
    · refine if_false_of (by simpa using h0) ⟨_, rfl, p, _, _, _, rfl, rfl, SqL.of hp, rfl, _, _, rfl, rfl, .inr ⟨by decide, by decide⟩, _, _, rfl, rfl, _, _, rfl, rfl, (by show (0 : Int) < 2147483647; decide), ?_⟩
      have b1 := Int.emod_nonneg (y * 48271 + 11) (show (2147483647 : Int) ≠ 0 by decide)
      have b2 := Int.emod_lt_of_pos (y * 48271 + 11) (show (0 : Int) < 2147483647 by decide)
      have bw : CMulW ((y * 48271 + 11) % 2147483647) ((y * 48271 + 11) % 2147483647) := wide_mul (a := 32) (b := 32) (by omega) (by omega) (by decide) (by decide) (by decide)
      refine ⟨_, rfl, p, _, _, 1, rfl, rfl, hp, rfl, _, rfl, p, _, _, _, rfl, rfl, SqL.of upd_same, rfl, _, rfl, p, _, _, _, rfl, rfl, SqL.of upd_same, rfl, _, _, rfl, rfl, bw, _, _, rfl, rfl, (by show (0 : Int) < 2147483629; decide), _, _, rfl, rfl, ⟨by decide, by decide⟩, _, rfl, _, _, rfl, rfl, hm, ?_⟩
      exact k _ _ _ hx b1 (Int.emod_nonneg _ (by omega)) (Int.emod_lt_of_pos _ hm)
end
end Fu

/-! The heap evaluator: a def by its body's evaluator; the pool and its draws; the law's main loop. -/
noncomputable section
namespace He
open PySem L2
open PyProof.Rows hiding St
open Fu (RoomG FnG)
/-! ### a def -/
def flD (h : Hs) : Fl → Rs D
  | .rt d => .ok d h
  | .nx _ => .ok .non h
  | .xr c d _ => .er c d h
  | _ => .no
def toD (r : Rs Fl) : Rs D := Rs.rec (motive := fun _ => Rs D) (fun a h => flD h a) (fun _ _ _ => .no) .no (fun n _ ih => .all n ih) r
def mk (n m : Nat) (g : Sf) : Gf := fun ds h => if ds.length = m then toD (g (ds.map some ++ List.replicate (n - m) none) h) else .no
section
variable {P : Program} {w : World} {K : PySem.W.Frag} {mg : Str → Option Value} {base : Heap} {Γ : Gm} {k : Nat} {x qual : Str} {st : Stmt} {f : Addr} {fd : FuncData} {N ps : List Str} {g : Sf}
theorem slAt_start {ω : Wd} {ds : List D} {vs : List V} (hs : Ats Γ ω ds vs) (n : Nat) : SlAt Γ ω (ds.map some ++ List.replicate n none) (vs.map some ++ List.replicate n none) := by
  refine ⟨by simp [hs.len], fun i d hi => ?_⟩
  by_cases hl : i < ds.length
  · rw [List.getElem?_append_left (by simpa using hl), List.getElem?_map] at hi
    rw [List.getElem?_append_left (by simpa [hs.len] using hl), List.getElem?_map]
    obtain ⟨d', hd', e⟩ := Option.map_eq_some_iff.mp hi
    cases e
    obtain ⟨v, hv, ha⟩ := hs.get hd'
    exact ⟨v, by rw [hv]; rfl, .inl ha⟩
  · rw [List.getElem?_append_right (by simpa using hl), List.getElem?_replicate] at hi
    split at hi
    · cases hi
    · cases hi
theorem toD_ok {ω : Wd} {r : Rs Fl} {Q : VK} {E : XK} (q : OkR Γ ω (fun c d _ H' => E c d H') [] (toD r) fun ω' d _ H' => ∀ v, At Γ ω' d v → Q v H') : OkR Γ ω WN [] r (fEnds Γ (fun c d _ H' => E c d H') { nx := fun _ H' => Q .non H', rt := Q }) := by
  induction r with
  | no => exact q
  | er c d h => exact q.elim
  | all n f ih => exact fun i hi => ih i (q i hi)
  | ok fl h =>
    cases fl with
    | nx S => exact fun ω1 H1 e1 r1 σ sl => q ω1 H1 e1 r1 .non rfl
    | rt d => exact q
    | bk S => exact q.elim
    | ct S => exact q.elim
    | xr c d S => exact fun ω1 H1 e1 r1 y σ sl ea => q ω1 y H1 e1 r1 ea
theorem spH_len {G : Gf} {m : Nat} (h : ∀ ds h, ds.length ≠ m → G ds h = .no) {vs : List V} {H : Hp} {Q : VK} {E : XK} (s : spH Γ G vs H Q E) : vs.length = m := by
  obtain ⟨ω, hh, ds, r, hs, q⟩ := s
  rw [hs.len]
  by_cases e : ds.length = m
  · exact e
  · rw [h ds hh e] at q
    exact q.elim
theorem mk_len {n m : Nat} : ∀ ds h, ds.length ≠ m → mk n m g ds h = .no := fun ds h e => if_neg e
theorem mk_ok {n m : Nat} {vs : List V} {H : Hp} {Q : VK} {E : XK} (h : spH Γ (mk n m g) vs H Q E) : tSt Γ (fun c d _ H' => E c d H') g { nx := fun _ H' => Q .non H', rt := Q } (vs.map some ++ List.replicate (n - vs.length) none) H := by
  have hl : vs.length = m := spH_len mk_len h
  obtain ⟨ω, hh, ds, r, hs, q⟩ := h
  have hl' : ds.length = m := by rw [← hs.len]; exact hl
  unfold mk at q
  rw [if_pos hl'] at q
  rw [hl]
  exact ⟨ω, _, hh, slAt_start hs _, r, toD_ok q⟩
abbrev wx (E : XK) : WX := fun c d _ H => E c d H
theorem fnH (F : Fun K x qual st f fd) (S : FnScope N ps (defScope st))
    (hbody : ∀ (cdv : Value) (A : Around) (outer : List Env) (s : Shared) (H : Hp) (E : XK), RoomG k (A.deeper (envOfC qual (defScope st) s.heap.objs.size f cdv)) → DSs (cxOf (L2.CX P w) P w K mg base N qual (defScope st) f cdv A outer s H E) Γ (wx E) (defBody st) g) :
    FnG P w K mg base (L2.CX P w) (k + 1) f fd ps (spH Γ (mk N.length ps.length g)) :=
  Fu.Fun.okG F S (fun vs H Q E h => spH_len mk_len h) fun cdv A outer s H vs Q E hr h => ⟨_, hbody cdv A outer s H E hr, mk_ok h⟩
/-! ### the pool, a draw -/
def vPool : Gf := fun ds h => match ds with
  | [.scr, .kk] => if h.nx < 1000000000 then .ok (.loc h.nx) (h.push .pl) else .no
  | _ => .no
def vTake : Gf := fun ds h => match ds with
  | [.loc n, .int m] => match h.get n with
    | some .pl => if 0 < m ∧ m.natAbs.log2 < 9000 then .all m.toNat fun i => .ok (.int i) h else .no
    | _ => .no
  | _ => .no
theorem ok_cx0 {E : XK} {sp sp' : Sp} (F : FnOk P w K mg base CX0 k f fd ps sp) (m : ∀ vs H Q E, sp' vs H Q E → sp vs H Q E) : FnG P w K mg base (L2.CX P w) k f fd ps sp' := by
  refine ⟨fun vs H Q E h => F.len vs H Q E (m vs H Q E h), fun A outer s H args us vs Q E hr e0 hb r h => ?_⟩
  refine codeAny_mono (F.run A outer s H args us vs Q E hr.r e0 hb r (m vs H Q E h)) fun z s' q => ?_
  cases z with
  | error e => exact False.elim q
  | ok fl => cases fl <;> exact q
theorem fn_pool (hK : Γ.ct.K = K) (F : FnOk P w K mg base CX0 k f fd ps (Fu.spPool K)) : FnG P w K mg base (L2.CX P w) k f fd ps (spH Γ vPool) := ok_cx0 (E := fun _ _ _ => True) F fun vs H Q E ⟨ω, h, ds, r, hs, q⟩ => by
  unfold vPool at q
  split at q
  · split at q
    · rename_i hl
      obtain ⟨v1, r1, rfl, h1, v2, r2, rfl, h2, h3⟩ := hs
      obtain rfl := h3
      obtain ⟨a, ns, rfl, hns, hsq⟩ := h1
      obtain ⟨j, hj, rfl⟩ := h2
      refine ⟨a, ns, j, rfl, by rw [← hK]; exact r.sub.seq hsq, hj, fun p x y hp hx hy => ?_⟩
      have x1 := Wd.push_ext ω p
      exact (OkR.there q x1 (r.newC (c := .pl) hp hl (same_new hp) ⟨x, y, upd_same, hx, hy⟩)) _ (new_loc r p)
    · exact q.elim
  · exact q.elim
theorem fn_take (F : FnOk P w K mg base CX0 k f fd ps Fu.spTake) : FnG P w K mg base (L2.CX P w) k f fd ps (spH Γ vTake) := ok_cx0 (E := fun _ _ _ => True) F fun vs H Q E ⟨ω, h, ds, r, hs, q⟩ => by
  unfold vTake at q
  split at q
  · rename_i n m
    split at q
    · rename_i hpl
      split at q
      · rename_i hm
        obtain ⟨v1, r1, rfl, h1, v2, r2, rfl, h2, h3⟩ := hs
        obtain rfl := h3
        obtain ⟨hn, rfl⟩ := h1
        obtain rfl := h2
        obtain ⟨s, t, ha, hs0, ht0⟩ := r.at_ hn hpl
        refine ⟨_, s, t, m, rfl, ha, hs0, ht0, hm.1, hm.2, fun x' y' d hx hy hd hlt => ?_⟩
        have qi := q d.toNat (by omega)
        have hw := r.write (o := .lst [.int x', .int y']) (c := .pl) hn hpl rfl ⟨x', y', upd_same, hx, hy⟩
        have hw' : Rp Γ ω h (upd H (ω.ι n) (.lst [.int x', .int y'])) := by
          refine ⟨hw.nx, hw.lim, hw.sub, fun j hj => ?_, fun j c hj hc lk => ?_, hw.inj, hw.xt⟩
          · by_cases z : j = n
            · subst z
              exact ⟨.pl, hpl, ⟨x', y', upd_same, hx, hy⟩⟩
            · obtain ⟨c, hc, hca⟩ := hw.cel j hj
              rw [get_put_ne z] at hc
              exact ⟨c, hc, hca⟩
          · exact r.apt j c hj hc lk
        have z := qi ω _ (Ext.refl ω) hw' (.int d)
        exact z (by show V.int d = V.int ((d.toNat : Nat) : Int); rw [Int.toNat_of_nonneg hd])
      · exact q.elim
    · exact q.elim
  · exact q.elim
end
end He
end

/-! The heap evaluator: the rules as a printed text uses them (what is plain is settled by rfl). -/
noncomputable section
namespace He
open PySem L2
open PyProof.Rows hiding St
open Fu (RoomG FnG)
section
variable (P : Program) (w : World) (K : PySem.W.Frag) (mg : Str → Option Value) (base : Heap) (Γ : Gm)
/-- a def of the top, a method, a property, a class with its __init__, an own __contains__ -/
structure Dn (lev : Nat) (x : Str) (ps : List Str) (G : Gf) : Prop where
  ex : ∃ (f : Addr) (fd : FuncData), FnG P w K mg base (L2.CX P w) lev f fd ps (spH Γ G) ∧ mg x = some (.ref f) ∧ PySem.W.keepIn K (.ref f) = true ∧ Binds K fd ps []
structure Mn (lev c : Nat) (m : Str) (ps : List Str) (G : Gf) : Prop where
  ex : ∃ (f : Addr) (fd : FuncData), FnG P w K mg base (L2.CX P w) lev f fd ps (spH Γ G) ∧ Meth K (Γ.ct.cls c) m f ∧ Binds K fd ps []
  cf : ClsF Γ K c
  nf : m ∉ Γ.ct.fld c
structure Pn (lev c : Nat) (m : Str) (G : Gf) : Prop where
  ex : ∃ (p f : Addr) (fd : FuncData), FnG P w K mg base (L2.CX P w) lev f fd ["self"] (spH Γ G) ∧ PropOf K (Γ.ct.cls c) m p f ∧ Binds K fd ["self"] []
  cf : ClsF Γ K c
structure Kn (lev c : Nat) (x : Str) (ps : List Str) (G : Gf) : Prop where
  ex : ∃ (f : Addr) (fd : FuncData), FnG P w K mg base (L2.CX P w) lev f fd ps (spH Γ G) ∧ Mk K (Γ.ct.cls c) f ∧ mg x = some (.ref (Γ.ct.cls c)) ∧ Binds K fd ps []
structure An (lev c : Nat) (m : Str) (ps : List Str) (G : Gf) : Prop where
  ex : ∃ (f : Addr) (fd : FuncData), FnG P w K mg base (L2.CX P w) lev f fd ps (spH Γ G) ∧ PySem.W.findIn K (.ref (Γ.ct.cls c)) m = some (some (.ref f)) ∧ PySem.W.isFn K (.ref f) = true ∧ Binds K fd ps []
structure En (c : Nat) (x f : Str) : Prop where
  ex : ∃ (fI : Addr) (fd : FuncData), Fu.ErrC K mg x f (Γ.ct.err c) fI ∧ FnOk P w K mg base CX0 1 fI fd ["self", f] (Fu.spX (Γ.ct.err c) f) ∧ Binds K fd ["self", f] []
  ef : Γ.ct.erf c = some f
structure Rn (ci : Nat) : Prop where
  O : Fu.RatO P w K mg base Γ.ct.R
  ex : ∃ (f : Addr) (fd : FuncData) (ds : List Value), Fu.RatM P w K mg base Γ.ct.R (Γ.ct.err ci) f fd ds
  g : mg "Ratio" = some (.ref Γ.ct.R)
  ef : Γ.ct.erf ci = some "value"
end
section
variable {X : Cx} {Γ : Gm} {W : WX} {e a b c o tg iter : Expr} {es : List Expr} {fa fb fc f fo : Ef} {g : Af} {pos p apos cpos : Pos} {n lev cc : Nat} {x m : Str} {ps : List Str} {G : Gf} {gt : Tf}
/-! ### module constants -/
theorem jk {d : D} {v : V} {u : Value} (hm : X.mg x = some u) (r : RelV v u) (hd : ∀ ω, At Γ ω d v) (hg : Gl X x := by rfl) (hdb : (x == ("__debug__" : Str)) = false := by decide) : DE X Γ W (.Name x pos) (fC d) := de_c (pe_glob hg hm r hdb) hd
/-! ### operators -/
abbrev oAdd : S2 := pS (s2or (s2M Mi.sAdd) s2cat)
abbrev oSub : S2 := pS (s2M Mi.sSub)
abbrev oMul : S2 := pS (s2or (s2M Mi.sMul) s2rep)
abbrev oDiv : S2 := pS (s2M Mi.sDiv)
abbrev oMod : S2 := pS (s2M Mi.sMod)
abbrev oPow : S2 := pS (s2M Mi.sPow)
theorem jadd (O : Fu.RatO X.prog X.w X.K X.mg X.base Γ.ct.R) (hr : RoomG n X.A) (ha : DE X Γ W a fa) (hb : DE X Γ W b fb) (hl : 6 ≤ n := by decide) : DE X Γ W (.BinOp a .Add b pos) (fB oAdd fa fb) := de_op ((OpH.mi (Mi.od_add O (hr.r.mono hl))).or od_cat) ha hb
theorem jsub (O : Fu.RatO X.prog X.w X.K X.mg X.base Γ.ct.R) (hr : RoomG n X.A) (ha : DE X Γ W a fa) (hb : DE X Γ W b fb) (hl : 6 ≤ n := by decide) : DE X Γ W (.BinOp a .Sub b pos) (fB oSub fa fb) := de_op (OpH.mi (Mi.od_sub O (hr.r.mono hl))) ha hb
theorem jmul (O : Fu.RatO X.prog X.w X.K X.mg X.base Γ.ct.R) (hr : RoomG n X.A) (ha : DE X Γ W a fa) (hb : DE X Γ W b fb) (hl : 6 ≤ n := by decide) : DE X Γ W (.BinOp a .Mult b pos) (fB oMul fa fb) := de_op ((OpH.mi (Mi.od_mul O (hr.r.mono hl))).or od_rep) ha hb
theorem jdiv (ha : DE X Γ W a fa) (hb : DE X Γ W b fb) : DE X Γ W (.BinOp a .FloorDiv b pos) (fB oDiv fa fb) := de_op (OpH.mi Mi.od_div) ha hb
theorem jmod (ha : DE X Γ W a fa) (hb : DE X Γ W b fb) : DE X Γ W (.BinOp a .Mod b pos) (fB oMod fa fb) := de_op (OpH.mi Mi.od_mod) ha hb
theorem jpow (ha : DE X Γ W a fa) (hb : DE X Γ W b fb) : DE X Γ W (.BinOp a .Pow b pos) (fB oPow fa fb) := de_op (OpH.mi Mi.od_pow) ha hb
abbrev oNeg : S1 := pS1 (s1M Mi.sNeg)
theorem jneg (O : Fu.RatO X.prog X.w X.K X.mg X.base Γ.ct.R) (hr : RoomG n X.A) (ha : DE X Γ W a fa) (hl : 5 ≤ n := by decide) : DE X Γ W (.UnaryOp .USub a pos) (fU oNeg fa) := de_un (UnH.mi (Mi.ud_neg O (hr.r.mono hl))) ha
/-! ### comparisons -/
abbrev qEq : S2 := s2R 2000 (Mi.sEq 5)
abbrev qNe : S2 := s2R 2000 (Mi.sNe 5)
abbrev qLt : S2 := s2M Mi.sLt
abbrev qLe : S2 := s2M Mi.sLe
abbrev qGt : S2 := s2M Mi.sGt
abbrev qGe : S2 := s2M Mi.sGe
abbrev qIn : S2 := s2R 2000 (Mi.sIn false)
abbrev qNi : S2 := s2R 2000 (Mi.sIn true)
abbrev qIs : S2 := s2or (s2isN false) (s2isB false)
abbrev qIn' : S2 := s2or (s2isN true) (s2isB true)
section
variable (O : Fu.RatO X.prog X.w X.K X.mg X.base Γ.ct.R) (hr : RoomG n X.A)
include O hr
theorem qeq (hl : 8 ≤ n := by decide) : OpH X Γ (compareOp .Eq) qEq := OpH.rei (Mi.od_eq O (k := 5) (hr.r.mono hl))
theorem qne (hl : 9 ≤ n := by decide) : OpH X Γ (compareOp .NotEq) qNe := OpH.rei (Mi.od_ne O (k := 5) (hr.r.mono hl))
theorem qlt (hl : 3 ≤ n := by decide) : OpH X Γ (compareOp .Lt) qLt := OpH.mi (Mi.od_lt O (hr.r.mono hl))
theorem qle (hl : 3 ≤ n := by decide) : OpH X Γ (compareOp .LtE) qLe := OpH.mi (Mi.od_le O (hr.r.mono hl))
theorem qgt (hl : 3 ≤ n := by decide) : OpH X Γ (compareOp .Gt) qGt := OpH.mi (Mi.od_gt O (hr.r.mono hl))
theorem qge (hl : 3 ≤ n := by decide) : OpH X Γ (compareOp .GtE) qGe := OpH.mi (Mi.od_ge O (hr.r.mono hl))
end
theorem qin : OpH X Γ (compareOp .In) qIn := OpH.rei Mi.od_in
theorem qni : OpH X Γ (compareOp .NotIn) qNi := OpH.rei Mi.od_notIn
theorem qis : OpH X Γ (compareOp .Is) qIs := od_isN.or od_isB
theorem qisn : OpH X Γ (compareOp .IsNot) qIn' := od_notN.or od_notB
/-- .. with an own __contains__ -/
abbrev qInO (cc : Nat) (G : Gf) : S2 := s2or qIn (s2inO cc G)
theorem qino (d : An X.prog X.w X.K X.mg X.base Γ lev cc "__contains__" ps G) (hr : RoomG n X.A) (hl : lev ≤ n := by decide) : OpH X Γ (compareOp .In) (qInO cc G) := by
  obtain ⟨f, fd, F, h1, h2, h3⟩ := d.ex
  exact qin.or (od_inO ⟨f, ⟨fd, F, h3⟩, h1, h2⟩ (hr.mono hl))
theorem jcmp {op : CmpOp} {sem : S2} (ho : OpH X Γ (compareOp op) sem) (ha : DE X Γ W a fa) (hb : DE X Γ W b fb) (hm : behindInMarks op b = false := by rfl) : DE X Γ W (.Compare a [op] [b] pos) (fB (pS sem) fa fb) := de_cmp ho ha hb hm
theorem jcmpT {op : CmpOp} {sem : S2} (ho : OpH X Γ (compareOp op) sem) (ha : DE X Γ W a fa) (hb : DE X Γ W b fb) (hm : behindInMarks op b = false := by rfl) : DT X Γ W (.Compare a [op] [b] pos) (gB (fB (pS sem) fa fb)) := dt_cmp ho ha hb hm
theorem jch {op op' : CmpOp} {sem sem' : S2} (ho : OpH X Γ (compareOp op) sem) (ho' : OpH X Γ (compareOp op') sem') (ha : DE X Γ W a fa) (hb : DE X Γ W b fb) (hc : DE X Γ W c fc) (hm : lastMarks [op, op'] [b, c] = false := by with_unfolding_all rfl) : DE X Γ W (.Compare a [op, op'] [b, c] pos) (fCh sem sem' fa fb fc) := de_ch ho ho' ha hb hc hm
theorem jchT {op op' : CmpOp} {sem sem' : S2} (ho : OpH X Γ (compareOp op) sem) (ho' : OpH X Γ (compareOp op') sem') (ha : DE X Γ W a fa) (hb : DE X Γ W b fb) (hc : DE X Γ W c fc) (hm : lastMarks [op, op'] [b, c] = false := by with_unfolding_all rfl) : DT X Γ W (.Compare a [op, op'] [b, c] pos) (gB (fCh sem sem' fa fb fc)) := dt_ch ho ho' ha hb hc hm
theorem jte (h : DE X Γ W e f) (he : ∀ whole, isTrue e X.env whole = (do let v ← whole; standAt e.pos; holding [v] (truthy v)) := by intro _; rfl) : DT X Γ W e (gT f) := dt_e h he
/-! ### arguments -/
theorem jac (ha : DE X Γ W e fa) (hr : DA X Γ W es g) (hs : starEach (e :: es) X.env = (false, eval e X.env) :: starEach es X.env := by rfl) : DA X Γ W (e :: es) (aCons fa g) := da_cons ha hr hs
/-! ### calls -/
theorem jcall (d : Dn X.prog X.w X.K X.mg X.base Γ lev x ps G) (hr : RoomG n X.A) (tk : Takes X W) (ha : DA X Γ W (e :: es) g) (hl : lev ≤ n := by decide) (hg : Gl X x := by rfl) (hdb : (x == ("__debug__" : Str)) = false := by decide)
    (he : starEach (e :: es) X.env = (false, eval e X.env) :: starEach es X.env := by rfl) (hpl : (backTo pos (starEach es X.env)).any (·.1) = false := by rfl) : DE X Γ W (.Call (.Name x p) (e :: es) [] pos) (fCall G g) := by
  obtain ⟨f, fd, F, h1, h2, h3⟩ := d.ex
  exact de_call ⟨fd, F, h3⟩ (hr.mono hl) tk h1 h2 hg hdb ha he hpl
theorem jcall0 (d : Dn X.prog X.w X.K X.mg X.base Γ lev x ps G) (hr : RoomG n X.A) (tk : Takes X W) (hl : lev ≤ n := by decide) (hg : Gl X x := by rfl) (hdb : (x == ("__debug__" : Str)) = false := by decide) : DE X Γ W (.Call (.Name x p) [] [] pos) (fCall G aNil) := by
  obtain ⟨f, fd, F, h1, h2, h3⟩ := d.ex
  exact de_call0 ⟨fd, F, h3⟩ (hr.mono hl) tk h1 h2 hg hdb
theorem jmeth {pl : Sem Bool} (d : Mn X.prog X.w X.K X.mg X.base Γ lev cc m ps G) (hr : RoomG n X.A) (tk : Takes X W) (ho : DE X Γ W o fo) (ha : DA X Γ W (e :: es) g) (hl : lev ≤ n := by decide)
    (hst : starEach (e :: es) X.env = (false, eval e X.env) :: starEach es X.env := by rfl) (hpl : (backTo pos (starEach es X.env)).any (·.1) = false := by rfl)
    (ht : eval (.Call (.Attribute o m apos) (e :: es) [] pos) X.env = (do
      let ov ← eval o X.env
      standAt apos.atName
      let (f, first) ← holding [ov] (getMethod ov m pl)
      callWith pos f first (backTo pos (starEach (e :: es) X.env)) (backToKw pos (keywordEach [] X.env))) := by rfl) : DE X Γ W (.Call (.Attribute o m apos) (e :: es) [] pos) (fMeth cc G fo g) := by
  obtain ⟨f, fd, F, h1, h3⟩ := d.ex
  exact de_meth ⟨⟨f, ⟨fd, F, h3⟩, h1⟩, d.cf, d.nf⟩ (hr.mono hl) tk ho ha hst hpl ht
theorem jmeth0 {pl : Sem Bool} (d : Mn X.prog X.w X.K X.mg X.base Γ lev cc m ps G) (hr : RoomG n X.A) (tk : Takes X W) (ho : DE X Γ W o fo) (hl : lev ≤ n := by decide)
    (ht : eval (.Call (.Attribute o m apos) [] [] pos) X.env = (do
      let ov ← eval o X.env
      standAt apos.atName
      let (f, first) ← holding [ov] (getMethod ov m pl)
      callWith pos f first (backTo pos (starEach [] X.env)) (backToKw pos (keywordEach [] X.env))) := by rfl) : DE X Γ W (.Call (.Attribute o m apos) [] [] pos) (fMeth cc G fo aNil) := by
  obtain ⟨f, fd, F, h1, h3⟩ := d.ex
  exact de_meth0 ⟨⟨f, ⟨fd, F, h3⟩, h1⟩, d.cf, d.nf⟩ (hr.mono hl) tk ho ht
theorem jprop (d : Pn X.prog X.w X.K X.mg X.base Γ lev cc m G) (hr : RoomG n X.A) (ho : DE X Γ W o fo) (hl : lev + 1 ≤ n := by decide) (hab : attributeBase o m X.env (eval o X.env) = eval o X.env := by rfl) : DE X Γ W (.Attribute o m pos) (fProp cc G fo) := by
  obtain ⟨pp, f, fd, F, h1, h3⟩ := d.ex
  exact de_prop ⟨⟨pp, f, ⟨fd, F, h3⟩, h1⟩, d.cf⟩ (hr.mono hl) ho hab
theorem jmake (d : Kn X.prog X.w X.K X.mg X.base Γ lev cc x ps G) (hr : RoomG n X.A) (tk : Takes X W) (ha : DA X Γ W (e :: es) g) (hl : lev + 1 ≤ n := by decide) (hg : Gl X x := by rfl) (hdb : (x == ("__debug__" : Str)) = false := by decide)
    (he : starEach (e :: es) X.env = (false, eval e X.env) :: starEach es X.env := by rfl) (hpl : (backTo pos (starEach es X.env)).any (·.1) = false := by rfl) : DE X Γ W (.Call (.Name x p) (e :: es) [] pos) (fMake cc G g) := by
  obtain ⟨f, fd, F, h1, h2, h3⟩ := d.ex
  exact de_make ⟨f, ⟨fd, F, h3⟩, h1, h2⟩ (hr.mono hl) tk hg hdb ha he hpl
theorem jfld {j : Nat} {f : Str} (C : ClsF Γ X.K cc) (hf : (Γ.ct.fld cc)[j]? = some f) (ho : DE X Γ W o fo) (hb : attributeBase o f X.env (eval o X.env) = eval o X.env := by rfl) : DE X Γ W (.Attribute o f pos) (fFld cc j fo) := de_fld C hf ho hb
theorem jrat2 {ci : Nat} (R : Rn X.prog X.w X.K X.mg X.base Γ ci) (hr : RoomG n X.A) (tk : Takes X W) (ha : DA X Γ W [a, b] g) (hl : 4 ≤ n := by decide) (hg : Gl X "Ratio" := by rfl)
    (he : starEach [a, b] X.env = (false, eval a X.env) :: starEach [b] X.env := by rfl) (hpl : (backTo pos (starEach [b] X.env)).any (·.1) = false := by rfl) : DE X Γ W (.Call (.Name "Ratio" p) [a, b] [] pos) (fRat2 ci g) := de_ratio2 ⟨R.ex, R.g, R.ef⟩ (hr.r.mono hl) tk ha hg he hpl
theorem jrat1 {ci : Nat} (R : Rn X.prog X.w X.K X.mg X.base Γ ci) (hr : RoomG n X.A) (tk : Takes X W) (ha : DA X Γ W [a] g) (hl : 4 ≤ n := by decide) (hg : Gl X "Ratio" := by rfl)
    (he : starEach [a] X.env = (false, eval a X.env) :: starEach [] X.env := by rfl) (hpl : (backTo pos (starEach [] X.env)).any (·.1) = false := by rfl) : DE X Γ W (.Call (.Name "Ratio" p) [a] [] pos) (fRat1 ci g) := de_ratio1 ⟨R.ex, R.g, R.ef⟩ (hr.r.mono hl) tk ha hg he hpl
/-! ### built-ins -/
theorem jb {id : String} {sem : Sn} (hc : CaH X Γ (.builtin id) sem) (hm : X.mg x = none) (hv : bootBuiltins x = some (.builtin id)) (ha : DA X Γ W (e :: es) g) (hg : Gl X x := by rfl) (hn : x ≠ "__name__" := by decide) (hdb : (x == ("__debug__" : Str)) = false := by decide)
    (he : starEach (e :: es) X.env = (false, eval e X.env) :: starEach es X.env := by rfl) (hpl : (backTo pos (starEach es X.env)).any (·.1) = false := by rfl) : DE X Γ W (.Call (.Name x p) (e :: es) [] pos) (fBi sem g) := de_b hc hg hm hv ha hn hdb he hpl
theorem jt {id : String} {sem : Sn} (hc : CaH X Γ (.type id) sem) (hm : X.mg x = none) (hv : bootBuiltins x = some (.type id)) (ha : DA X Γ W (e :: es) g) (hg : Gl X x := by rfl) (hn : x ≠ "__name__" := by decide) (hdb : (x == ("__debug__" : Str)) = false := by decide)
    (he : starEach (e :: es) X.env = (false, eval e X.env) :: starEach es X.env := by rfl) (hpl : (backTo pos (starEach es X.env)).any (·.1) = false := by rfl) : DE X Γ W (.Call (.Name x p) (e :: es) [] pos) (fBi sem g) := de_t hc hg hm hv ha hn hdb he hpl
abbrev bAll : Sn := sn1R 2000 Mi.sAll
abbrev bAny : Sn := sn1R 2000 Mi.sAny
abbrev bSum : Sn := sn1R 2000 Mi.sSum
abbrev bInt : Sn := sn1M Mi.sInt
abbrev bBool : Sn := sn1R 2000 Mi.sBool
abbrev bAbs : Sn := sn1M Mi.sAbs
abbrev bMax : Sn := sn2M Mi.sMax
abbrev bMin : Sn := sn2M Mi.sMin
theorem jlen (hm : X.mg "len" = none) (ha : DA X Γ W (e :: es) g) (hg : Gl X "len" := by rfl) (he : starEach (e :: es) X.env = (false, eval e X.env) :: starEach es X.env := by rfl) (hpl : (backTo pos (starEach es X.env)).any (·.1) = false := by rfl) : DE X Γ W (.Call (.Name "len" p) (e :: es) [] pos) (fBi snLen g) := de_b ca_len hg hm (by decide +kernel) ha (by decide) (by decide) he hpl
theorem jlist (hm : X.mg "list" = none) (ha : DA X Γ W (e :: es) g) (hg : Gl X "list" := by rfl) (he : starEach (e :: es) X.env = (false, eval e X.env) :: starEach es X.env := by rfl) (hpl : (backTo pos (starEach es X.env)).any (·.1) = false := by rfl) : DE X Γ W (.Call (.Name "list" p) (e :: es) [] pos) (fBi snList g) := de_t ca_list hg hm (by decide +kernel) ha (by decide) (by decide) he hpl
theorem jall (hc : X.calm = true) (hm : X.mg "all" = none) (ha : DA X Γ W (e :: es) g) (hg : Gl X "all" := by rfl) (he : starEach (e :: es) X.env = (false, eval e X.env) :: starEach es X.env := by rfl) (hpl : (backTo pos (starEach es X.env)).any (·.1) = false := by rfl) : DE X Γ W (.Call (.Name "all" p) (e :: es) [] pos) (fBi bAll g) := de_b (CaH.rei1 (Mi.ca_all hc)) hg hm (by decide +kernel) ha (by decide) (by decide) he hpl
theorem jbool (hm : X.mg "bool" = none) (ha : DA X Γ W (e :: es) g) (hg : Gl X "bool" := by rfl) (he : starEach (e :: es) X.env = (false, eval e X.env) :: starEach es X.env := by rfl) (hpl : (backTo pos (starEach es X.env)).any (·.1) = false := by rfl) : DE X Γ W (.Call (.Name "bool" p) (e :: es) [] pos) (fBi bBool g) := de_t (CaH.rei1 Mi.ca_bool) hg hm (by decide +kernel) ha (by decide) (by decide) he hpl
theorem jint (hm : X.mg "int" = none) (ha : DA X Γ W (e :: es) g) (hg : Gl X "int" := by rfl) (he : starEach (e :: es) X.env = (false, eval e X.env) :: starEach es X.env := by rfl) (hpl : (backTo pos (starEach es X.env)).any (·.1) = false := by rfl) : DE X Γ W (.Call (.Name "int" p) (e :: es) [] pos) (fBi bInt g) := de_t (CaH.mi1 Mi.ca_int) hg hm (by decide +kernel) ha (by decide) (by decide) he hpl
theorem jabs (O : Fu.RatO X.prog X.w X.K X.mg X.base Γ.ct.R) (hr : RoomG n X.A) (hm : X.mg "abs" = none) (ha : DA X Γ W (e :: es) g) (hl : 6 ≤ n := by decide) (hg : Gl X "abs" := by rfl) (he : starEach (e :: es) X.env = (false, eval e X.env) :: starEach es X.env := by rfl) (hpl : (backTo pos (starEach es X.env)).any (·.1) = false := by rfl) : DE X Γ W (.Call (.Name "abs" p) (e :: es) [] pos) (fBi bAbs g) := de_b (CaH.mi1 (Mi.ca_abs O (hr.r.mono hl))) hg hm (by decide +kernel) ha (by decide) (by decide) he hpl
/-! ### subscripts, slices -/
theorem jix (ha : DE X Γ W a fa) (hb : DE X Γ W b fb) (hs : PlainIx b := by intro _ _; rfl) : DE X Γ W (.Subscript a b pos) (fB (pS s2ix) fa fb) := de_ix ha hb hs
/-! ### isinstance -/
theorem jisi {u : Value} {cv : V} {f : Mi.D → Bool} {N : Nat} (T : Mi.TyF Γ.ct X.K N) (I : Mi.IsF Γ.ct X.K N u f) (hcv : ClsV cv u) (hm : X.mg "isinstance" = none) (ha : DE X Γ W a fa) (hc : PE X c (tC cv)) (hg : Gl X "isinstance" := by rfl)
    (hs : starEach [a, c] X.env = (false, eval a X.env) :: starEach [c] X.env := by rfl) (hs2 : starEach [c] X.env = (false, eval c X.env) :: starEach [] X.env := by rfl) (hpl : (backTo pos (starEach [c] X.env)).any (·.1) = false := by rfl) : DE X Γ W (.Call (.Name "isinstance" p) [a, c] [] pos) (fU (pS1 (s1isi N f)) fa) := de_isi T I hcv hm ha hc hg hs hs2 hpl
/-! ### methods of lists -/
theorem jmut {id : String} {sem : Ml} (hm : MtLH X Γ id sem) (slot : Slot "list" m id) (hty : typeOf (.builtin id) = pure (.type "method_descriptor")) (ho : DE X Γ W o fo) (ha : DA X Γ W (e :: es) g)
    (hbase : attributeBase o m X.env (eval o X.env) = eval o X.env := by rfl)
    (hfew : ((backTo cpos (starEach (e :: es) X.env)).all (fun x => !x.1) && (backToKw cpos (keywordEach [] X.env)).all (fun x => x.1.isSome)
      && decide ((e :: es).length + ([] : List Keyword).length + (if ([] : List Keyword).isEmpty then 0 else 1) < 30)) = true := by rfl)
    (hline : (apos.endLine == cpos.line) = true := by rfl) (hs : starEach (e :: es) X.env = (false, eval e X.env) :: starEach es X.env := by rfl) (hplain : (backTo cpos (starEach es X.env)).any (·.1) = false := by rfl) :
    DE X Γ W (.Call (.Attribute o m apos) (e :: es) [] cpos) (fMut sem fo g) := de_mut hm slot hty ho ha hbase hfew hline hs hplain
theorem jmut0 {id : String} {sem : Ml} (hm : MtLH X Γ id sem) (slot : Slot "list" m id) (hty : typeOf (.builtin id) = pure (.type "method_descriptor")) (ho : DE X Γ W o fo)
    (hbase : attributeBase o m X.env (eval o X.env) = eval o X.env := by rfl) (hline : (apos.endLine == cpos.line) = true := by rfl) : DE X Γ W (.Call (.Attribute o m apos) [] [] cpos) (fMut sem fo aNil) := de_mut0 hm slot hty ho hbase hline
/-! ### statements -/
variable {body ss ss' : List Stmt} {gs gs' gb : Sf} {pos' px : Pos} {i : Nat}
theorem jexp (he : DE X Γ W e f) (hs : swapsWith e none pos.line X.env = pure false := by rfl) : DS X Γ W (.Expr e pos) (sExp f) := ds_expr he hs
theorem jset (hN : X.N.Nodup) (he : DE X Γ W e f) (hi : X.N[i]? = some x := by rfl) (hx : Loc X.env.scope x := by first | exact Or.inl rfl | exact Or.inr rfl) (hs : swapsWith e (some (.Name x px)) pos.line X.env = pure false := by rfl) (hf : X.fn x = true ∨ X.env.scope.names.lookup x = some .local := by first | exact Or.inl rfl | exact Or.inr rfl) :
    DS X Γ W (.Assign [.Name x px] e pos) (sSet i f) := ds_set hN hi hx he hs hf
theorem jgn (hN : X.N.Nodup) (hi : X.N[i]? = some x := by rfl) (hx : Loc X.env.scope x := by first | exact Or.inl rfl | exact Or.inr rfl) (hf : X.fn x = true ∨ X.env.scope.names.lookup x = some .local := by first | exact Or.inl rfl | exact Or.inr rfl) : DG X Γ (.Name x pos) [i] (bName i) := dg_name hN hi hx hf
theorem jgc {is js : List Nat} {bb : Bf} {bs : Bfs} (h1 : DG X Γ e is bb) (h2 : DGs X Γ es js bs) (hs : (assignEach (e :: es) X.env).map (·.2) = assign e X.env :: (assignEach es X.env).map (·.2) := by rfl) : DGs X Γ (e :: es) (is ++ js) (bsCons bb bs) := dgs_cons h1 h2 hs
theorem jgt {kk : Nat} {is : List Nat} {bs : Bfs} {k : Nat} (hc : X.calm = true) (hg : DGs X Γ es is bs) (hn : (assignEach es X.env).length = k := by rfl) (hst : (assignEach es X.env).findIdx? (·.1) = none := by rfl) : DG X Γ (.Tuple es kk pos) is (bTup k bs) := dg_tup hc hg hn hst
theorem jasg {is : List Nat} {bb : Bf} (he : DE X Γ W e f) (hg : DG X Γ tg is bb) (hs : swapsWithSole [tg] e pos.line X.env = pure false := by rfl) (hw : swappedStores [tg] e X.env = pure none := by rfl) (h1 : (assignEach [tg] X.env).map (·.2) = [assign tg X.env] := by rfl) : DS X Γ W (.Assign [tg] e pos) (sAsg bb f) := ds_asg he hg hs hw h1
theorem jsto {j : Nat} {f : Str} {fe : Ef} (C : ClsF Γ X.K cc) (hf : (Γ.ct.fld cc)[j]? = some f) (ho : DE X Γ W o fo) (he : DE X Γ W e fe) (hs : swapsWith e (some (.Attribute o f pos')) pos.line X.env = pure false := by rfl) : DS X Γ W (.Assign [.Attribute o f pos'] e pos) (sStore cc j fo fe) := ds_store C hf ho he hs
theorem jrai {f : Str} {pos2 : Pos} (d : En X.prog X.w X.K X.mg X.base Γ cc x f) (hc : X.calm = true) (hr : RoomG n X.A) (tk : Takes X W) (ha : DE X Γ W e fa) (hl : 2 ≤ n := by decide) (hg : Gl X x := by rfl) (hs : starEach [e] X.env = (false, eval e X.env) :: starEach [] X.env := by rfl)
    (hdb : (x == ("__debug__" : Str)) = false := by decide) (hpl : (backTo pos (starEach [] X.env)).any (·.1) = false := by rfl) : DS X Γ W (.Raise (some (.Call (.Name x p) [e] [] pos)) none pos2) (sRaise cc fa) := ds_raise ⟨d.ex, d.ef⟩ hc (hr.r.mono hl) tk ha hg hs hdb hpl
theorem jfor {k : Nat} {g : If} {is : List Nat} {bb : Bf} (hp : PassesOwn (model X.prog X.w) X.A X.env X.xe) (hc : X.calm = true) (hi : DI X Γ W tg iter g) (hg : DG X Γ tg is bb) (hb : DSs X Γ W body gb) (hs : ∀ x, foldedSetIterable iter X.env x = pure x := by intro _; rfl) : DS X Γ W (.For tg iter body [] pos) (sFor k g bb gb) := ds_for hp hc hi hg hb hs
theorem jr1 {g : Af} (hm : X.mg "range" = none) (ha : DA X Γ W [a] g) (hg : Gl X "range" := by rfl) (hs : starEach [a] X.env = [(false, eval a X.env)] := by rfl) : DI X Γ W tg (.Call (.Name "range" p) [a] [] pos) (iR1 g) := di_range1 hg hm ha hs
theorem jenum {g : Af} {elts : List Expr} {kk : Nat} {tpos : Pos} (hm : X.mg "enumerate" = none) (ha : DA X Γ W [a] g) (hg : Gl X "enumerate" := by rfl) (hs : starEach [a] X.env = [(false, eval a X.env)] := by rfl) : DI X Γ W (.Tuple elts kk tpos) (.Call (.Name "enumerate" p) [a] [] pos) (iEnum g) := di_enum hg hm ha hs
/-! ### comprehensions -/
variable {elt : Expr} {ifs : List Expr} {scope : Scope} {own : List (Str × Nat)} {spos py : Pos} {gi : If} {bb : Bf} {tt : Tf} {fe : Ef} {is : List Nat}
theorem jlc {k : Nat} (own : List (Str × Nat)) (hc : X.calm = true) (hN : X.N.Nodup) (hi : DI X Γ W tg iter gi) (ok : blkC X.N X.env.scope scope own = true) (hsub : ∀ i ∈ is, i ∈ own.map (·.2))
    (hg : ∀ (s : Shared) (H : Hp) (C : Addr) (cl : List (Str × Addr)) (fp : List Addr), DG (X.blk s H scope (compEnvC scope cl C X.env) fp) Γ tg is bb) (ht : ∀ (s : Shared) (H : Hp) (C : Addr) (cl : List (Str × Addr)) (fp : List Addr), DTs (X.blk s H scope (compEnvC scope cl C X.env) fp) Γ WN ifs tt)
    (he : ∀ (s : Shared) (H : Hp) (C : Addr) (cl : List (Str × Addr)) (fp : List Addr), DE (X.blk s H scope (compEnvC scope cl C X.env) fp) Γ WN elt fe) (hs : ∀ x, foldedSetIterable iter X.env x = pure x := by intro _; rfl) :
    DE X Γ W (.ListComp elt [⟨tg, iter, ifs, 0⟩] scope pos) (fLc k (own.map (·.2)) gi bb tt fe) := de_lc hc hN hi (blkOk_by ok) hsub hg ht he hs
end
end He
end

/-! The heap evaluator: more rules for printed texts. -/
noncomputable section
namespace He
open PySem L2
open PyProof.Rows hiding St
open Fu (RoomG FnG)
section
variable {X : Cx} {Γ : Gm} {W : WX} {e a b c o tg iter : Expr} {es : List Expr} {fa fb fc f fo : Ef} {g : Af} {pos p apos cpos : Pos} {n lev cc : Nat} {x m : Str} {ps : List Str} {G : Gf}
theorem jstr {i z : Str} {pos : Pos} {j} (h : i = z) : DE X Γ W (.Constant (.str i) j pos) (fC (.str z)) := by
  subst h
  exact de_str
theorem jkx {d : D} {v : V} (h : ∃ u, X.mg x = some u ∧ RelV v u) (hd : ∀ ω, At Γ ω d v) (hg : Gl X x := by rfl) (hdb : (x == ("__debug__" : Str)) = false := by decide) : DE X Γ W (.Name x pos) (fC d) := by
  obtain ⟨u, hm, r⟩ := h
  exact jk hm r hd hg hdb
theorem dt_bad : DT X Γ W e (fun _ _ => .no) := ⟨fun pins s σ H Q I ⟨ω, S, h, sl, r, k⟩ => k.elim⟩
/-! ### {} -/
def fDnew : Ef := fun _ h => if h.nx < 1000000000 then .ok (.loc h.nx) (h.push (.dic false [] [])) else .no
theorem de_dnew : DE X Γ W (.Dict [] [] pos) fDnew := Mi.PE.mono pe_dnewK fun σ H Q ⟨ω, S, h, sl, r, k⟩ => by
  unfold fDnew at k
  split at k
  · rename_i hl
    intro q hq
    have x1 := Wd.push_ext ω q
    exact (k.there x1 (r.newC hq hl (same_new hq) ⟨[], upd_same, rfl, rfl⟩)) _ (new_loc r q)
  · exact k.elim
/-! ### the kinds that isinstance asks for -/
def tInt : Mi.D → Bool
  | .int _ => true
  | .bl _ => true
  | _ => false
def tBool : Mi.D → Bool
  | .bl _ => true
  | _ => false
def tStr : Mi.D → Bool
  | .str _ => true
  | _ => false
def tList : Mi.D → Bool
  | .lst _ => true
  | _ => false
def tTup : Mi.D → Bool
  | .tup _ => true
  | _ => false
def tDict : Mi.D → Bool
  | .dic _ _ => true
  | _ => false
def tRat : Mi.D → Bool
  | .rat _ => true
  | _ => false
/-! ### a, b = x, y -/
theorem jpar {i j : Nat} {x y : Str} {px py pt : Pos} {kt k2 pt2} (hN : X.N.Nodup) (ha : DA X Γ W [a, b] g) (hc : X.calm = true := by rfl) (hi : X.N[i]? = some x := by rfl) (hj : X.N[j]? = some y := by rfl) (hij : i ≠ j := by decide)
    (hx : X.env.scope.names.lookup x = some .local := by rfl) (hy : X.env.scope.names.lookup y = some .local := by rfl) (hw : swappedStores [.Tuple [.Name x px, .Name y py] kt pt] (.Tuple [a, b] k2 pt2) X.env = pure (some [x, y]) := by rfl) :
    DS X Γ W (.Assign [.Tuple [.Name x px, .Name y py] kt pt] (.Tuple [a, b] k2 pt2) pos) (sPar i j g) := ds_par hc hN hi hj hij hx hy ha hw
variable {elt : Expr} {ifs : List Expr} {scope : Scope} {spos py : Pos} {gi : If} {bb : Bf} {tt : Tf} {fe : Ef} {is : List Nat}
theorem jsetlc {i k : Nat} {y : Str} (own : List (Str × Nat)) (hc : X.calm = true) (hN : X.N.Nodup) (hi : DI X Γ W tg iter gi) (ok : blkC X.N X.env.scope scope own = true) (hsub : ∀ i ∈ is, i ∈ own.map (·.2))
    (hg : ∀ (s : Shared) (H : Hp) (C : Addr) (cl : List (Str × Addr)) (fp : List Addr), DG (X.blk s H scope (compEnvC scope cl C X.env) fp) Γ tg is bb) (ht : ∀ (s : Shared) (H : Hp) (C : Addr) (cl : List (Str × Addr)) (fp : List Addr), DTs (X.blk s H scope (compEnvC scope cl C X.env) fp) Γ WN ifs tt)
    (he : ∀ (s : Shared) (H : Hp) (C : Addr) (cl : List (Str × Addr)) (fp : List Addr), DE (X.blk s H scope (compEnvC scope cl C X.env) fp) Γ WN elt fe) (hy : X.N[i]? = some y := by rfl) (hyl : X.env.scope.names.lookup y = some .local := by rfl)
    (hsw : swapsWith (.ListComp elt [⟨tg, iter, ifs, 0⟩] scope pos) (some (.Name y py)) spos.line X.env = pure true := by rfl) (hs : ∀ x, foldedSetIterable iter X.env x = pure x := by intro _; rfl) :
    DS X Γ W (.Assign [.Name y py] (.ListComp elt [⟨tg, iter, ifs, 0⟩] scope pos) spos) (sSet i (fLc k (own.map (·.2)) gi bb tt fe)) := ds_setLc hc hN hy hyl hsw hi (blkOk_by ok) hsub hg ht he hs
end
end He
end

/-! repr of data at any depth, Ratios in them. -/
namespace Mi
open PySem L2
open PyProof.Rows hiding St
open L2H (RoomH roomH_of)
open Builtin
theorem und_frG (A : Around) (id : String) (args : Args) : (A.under (.builtin id args)).frames = A.frames := by
  first | rfl | simp [Around.under, Code.frames, Code.isFrame]
theorem room_und {k : Nat} {A : Around} {id : String} {args : Args} (h : RoomH (k + 1) A) (w : (Code.builtin id args).weight = 1) (u : (A.under (.builtin id args)).units = A.units + 1) : RoomH k (A.under (.builtin id args)) := by
  have dp : (A.under (.builtin id args)).depth = A.depth + 1 := by
    show A.depth + _ = _
    rw [w]
  exact ⟨by have := h.dp; rw [dp]; omega, by have := h.un; rw [u]; omega⟩
theorem wt_loop (args : Args) : (Code.builtin "list.__repr__.loop" args).weight = 1 := by
  unfold Code.weight
  rw [isGuard_list_loop]
  rfl
theorem wt_tup (args : Args) : (Code.builtin "tuple.__repr__" args).weight = 1 := by
  unfold Code.weight
  rw [isGuard_tuple_repr]
  rfl
theorem wt_tupU (args : Args) : (Code.builtin "tuple.__repr__.under" args).weight = 1 := by
  unfold Code.weight
  rw [isGuard_tuple_repr_under]
  rfl
theorem wt_dic (args : Args) : (Code.builtin "dict.__repr__" args).weight = 1 := by
  unfold Code.weight
  rw [isGuard_dict_repr]
  rfl
theorem wt_dicU (args : Args) : (Code.builtin "dict.__repr__.under" args).weight = 1 := by
  unfold Code.weight
  rw [isGuard_dict_repr_under]
  rfl
/-- the text of a value under containers, with the abstract heap in hand -/
def RX (X : Cx) (as : List Addr) (H0 : Hp) (d : Nat) (u : Value) (t : Str) : Prop :=
  ∀ (b : Nat) (A : Around) (g : List Code) (E : Value → Shared → Prop) (pins : List (Addr × Obj)) (σ : St) (H : Hp) (s : Shared) (Q : Str → Shared → Prop), b + t.length ≤ sizeLine → A.guards = some g → (∀ c ∈ as, Clear g c) → RoomH (d + 2) A → A.frames = some X.stack →
    (∀ e s', X.xe e s' → E e s') → Same H0 H → Inv X pins σ H s → (∀ s' H', Inv X pins σ H' s' → Same H H' → Q t s') → wpAny (model X.prog X.w) A (pyReprUnder b u) Q E s
section
variable {X : Cx} {as as' : List Addr} {H0 : Hp} {d d' : Nat} {u : Value} {t : Str} {C : Addr}
theorem RX.of_is (h : t.length ≤ sizeLine → ReprIs X.prog X.w u t) : RX X as H0 d u t := fun b A g E pins σ H s Q hb hg hc hr hf hE sm I hQ => h (by omega) b hb A E s Q fun tk => hQ _ H (I.tok tk) (Same.refl H)
theorem RX.more (h : RX X as H0 d u t) (m : ∀ c ∈ as, c ∈ as') (l : d ≤ d') : RX X as' H0 d' u t := fun b A g E pins σ H s Q hb hg hc hr hf hE sm I hQ => h b A g E pins σ H s Q hb hg (fun c z => hc c (m c z)) (hr.mono (by omega)) hf hE sm I hQ
theorem RX.rat {f : Addr} {fd : FuncData} {n m : Int} {p dx : Addr} (T : Fu.ReprC X.prog X.w X.K X.mg X.base C f fd (Fu.spRepr C)) (hp : H0 p = some (.ins C dx (Fu.rf n m))) (l1 : n.natAbs.log2 < 1900) (l2 : m.natAbs.log2 < 1900) : RX X as H0 d (.ref p) (Fu.rTxt n m) := by
  intro b A g E pins σ H s Q hb hg hc hr hf hE sm I hQ
  have hp' := sm _ _ hp
  obtain ⟨od, J⟩ := Fu.inst_of I hp'
  refine PySem.W.fu_under (by omega) (by have := hr.un; omega) I.kIn J T.hs T.hf (wpAny_mono (Fu.run_any (E := E0) (us := [.ref p]) (vs := [.ref p]) T.ok (hr.mono (by omega)) hf T.b I (.cons rfl .nil) (Q := fun v H' => v = .str (Fu.rTxt n m) ∧ H' = H) ⟨p, dx, n, m, rfl, hp', l1, l2, rfl, rfl⟩) (fun z s' hh => ?_) fun e s' q => hE e s' q)
  obtain ⟨v', H', I', rv', rfl, rfl⟩ := hh
  obtain ⟨tk, rfl⟩ := rv'
  exact ⟨_, _, rfl, hQ s' _ I' (Same.refl _)⟩
/-- the loop over a list's items; the texts so far lie in a new list p -/
theorem rx_loop {pins : List (Addr × Obj)} {σ : St} {b : Nat} {A : Around} {g : List Code} {R : Result → Shared → Prop} {H : Hp} {a p : Addr} {vs : List V} {ts : List Str} (hg : A.guards = some g) (hcl : ∀ c ∈ as, Clear g c) (hr : RoomH (d + 3) A) (hf : A.frames = some X.stack) (hna : a ∉ as)
    (sm : Same H0 H) (ha : H a = some (.lst vs)) (hp : H p = none) (hl : vs.length = ts.length) (hT : ∀ (i : Nat) (v : V) (u : Value), vs[i]? = some v → RelV v u → ∃ t, ts[i]? = some t ∧ RX X as H0 d u t) (hsz : b + (listText ts).length ≤ sizeLine)
    (hR : ∀ s' H' u, Inv X pins σ H' s' → Same H H' → R (.ok (.ret (.str (listText ts) u))) s') (hE : ∀ e s', X.xe e s' → R (.error e) s') :
    ∀ (k i : Nat) (s : Shared) (H1 : Hp), ts.length - i = k → i ≤ ts.length → Same H H1 → H1 p = some (.lst ((ts.take i).map V.str)) → Inv X pins σ H1 s →
      codeAny (model X.prog X.w) A (.builtin "list.__repr__.loop" ⟨[.ref a, rawInt i, .ref p, rawInt ((b + piled (ts.take i) : Nat) : Int)], []⟩) R s := by
  have nap : a ≠ p := ne_of_none ha hp
  have hXl : (listText ts).length = (textFrom 0 "[" ts).length + 1 := by
    unfold listText
    rw [strLen_append]
    rfl
  have hL := textFrom_len ts 0 "["
  have hz1 : ts.length ≤ sizeLine := by
    have h1 := hL.1
    rw [if_neg (Nat.lt_irrefl 0)] at h1
    omega
  have hz2 : ∀ t ∈ ts, t.length ≤ sizeLine := fun t ht => by have h2 := hL.2.1 t ht; omega
  have hz3 : (listText ts).length ≤ sizeLine := by omega
  have hp3 := piled_le_listText ts
  intro k
  induction k with
  | zero =>
    intro i s H1 hk hi s1 p1 I
    have hin : i = ts.length := by omega
    subst hin
    obtain ⟨_, its, n, rv, _, e⟩ := I.lstM (s1 _ _ ha)
    obtain ⟨_, jts, n2, rw2, _, e2⟩ := I.lstM p1
    rw [List.take_length] at rw2
    obtain ⟨done, rfl, ed⟩ := Fu.strs_of rw2
    refine codeAny_builtin PySem.F.entry_list_repr_loop ?_
    show wpAny _ _ (Builtin.«list.__repr__.loop» ⟨[.ref a, .int ((ts.length : Nat) : Int) 0, .ref p, .int _ 0], []⟩) _ _ s
    rw [repr_loop_tree]
    refine wpAny_bind (wpAny_listItems e rfl ?_)
    have hn : its.toArray[((ts.length : Nat) : Int).toNat]? = none := by
      have hlen := rv.length
      simp
      omega
    simp only [hn]
    unfold reprEnd
    refine wpAny_bind (wpAny_listItems e2 rfl ?_)
    rw [show (strValues done).toArray.toList = strValues done by simp, repr_fold]
    refine wpAny_bind (wpAny_pure ?_)
    rw [ed]
    exact wpAny_bind (wpAny_mkStr (wpAny_pure (hR _ _ _ (I.tok _) s1)) hz3)
  | succ k ih =>
    intro i s H1 hk hi s1 p1 I
    have hil : i < ts.length := by omega
    obtain ⟨_, its, n, rv, elen, e⟩ := I.lstM (s1 _ _ ha)
    have hiv : i < vs.length := by omega
    have hvv : vs[i]? = some (vs[i]'hiv) := by simp [hiv]
    obtain ⟨u, hu, ru⟩ := rv.get hvv
    obtain ⟨t, hti, hx⟩ := hT i _ u hvv ru
    have hp1 := piled_take_succ hti
    have hp2 := piled_take_le ts (i + 1)
    refine codeAny_builtin PySem.F.entry_list_repr_loop ?_
    show wpAny _ _ (Builtin.«list.__repr__.loop» ⟨[.ref a, .int ((i : Nat) : Int) 0, .ref p, .int ((b + piled (ts.take i) : Nat) : Int) 0], []⟩) _ _ s
    rw [repr_loop_tree]
    refine wpAny_bind (wpAny_listItems e rfl ?_)
    have hn : its.toArray[((i : Nat) : Int).toNat]? = some u := by
      rw [Int.toNat_natCast]
      simpa using hu
    simp only [hn]
    rw [Int.toNat_natCast]
    refine wpAny_bind (wpAny_holding (hx (b + piled (ts.take i) + 1) _ _ _ pins σ H1 s _ (by omega) (guards_under_guard (isGuard_list_loop _) hg) (fun c hc => (hcl c hc).cons (a := a) fun z => hna (z ▸ hc)) (room_und hr (wt_loop _) (units_under_list_loop _ _)) (by rw [und_frG]; exact hf) (fun e s' q => hE e s' q) (sm.trans s1) I fun s' H' I' s2 => ?_))
    refine wpAny_bind (wpAny_mkStr ?_ (hz2 _ (List.mem_of_getElem? hti)))
    refine wpAny_bind ?_
    show wpAny _ _ (updateSeq p _) _ _ _
    have I2 := I'.tok (s'.toks + 1)
    have p2 := s2 _ _ p1
    obtain ⟨_, jts, n2, rw2, jl, e2⟩ := I2.lstM p2
    have hjs : jts.length = i := by
      rw [← jl, List.length_map, List.length_take]
      omega
    refine wpAny_updateSeq e2 rfl (wpAny_pure ⟨PySem.F.quiet_list_repr_loop _, ?_⟩) (by rw [List.size_toArray, hjs]; omega)
    have e3 : ((i : Int) + 1) = ((i + 1 : Nat) : Int) := by omega
    have e4 : b + piled (ts.take i) + (t.length + 2) = b + piled (ts.take (i + 1)) := by omega
    rw [e3, e4]
    have e5 : (ts.take (i + 1)).map V.str = (ts.take i).map V.str ++ [V.str t] := by
      rw [List.take_add_one, hti, List.map_append]
      rfl
    refine ih (i + 1) _ (upd H' p (.lst ((ts.take i).map V.str ++ [V.str t]))) (by omega) (by omega) (fun c o hc => ?_) (by rw [upd_same, e5]) ?_
    · rw [upd_ne (ne_of_none hc hp)]
      exact s2 _ _ (s1 _ _ hc)
    · exact I2.lset (l := p) (its' := jts ++ [Value.str t s'.toks]) (f := fun xs => xs.push (Value.str t s'.toks)) (t' := s'.toks + 1) p2 e2 (by simp) (rw2.append (.cons (show RelV (.str t) (Value.str t s'.toks) from ⟨_, rfl⟩) .nil)) (by rw [List.length_append, List.length_map, List.length_take, List.length_singleton]; omega)
/-- a list's own __repr__, at b signs -/
theorem rx_listAt {pins : List (Addr × Obj)} {σ : St} {b : Nat} {A : Around} {g : List Code} {R : Result → Shared → Prop} {H : Hp} {s : Shared} {a : Addr} {vs : List V} {ts : List Str} (hg : A.guards = some g) (hcl : ∀ c ∈ a :: as, Clear g c) (hr : RoomH (d + 3) A) (hf : A.frames = some X.stack) (hna : a ∉ as)
    (sm : Same H0 H) (I : Inv X pins σ H s) (ha : H0 a = some (.lst vs)) (hne : vs ≠ []) (hl : vs.length = ts.length) (hT : ∀ (i : Nat) (v : V) (u : Value), vs[i]? = some v → RelV v u → ∃ t, ts[i]? = some t ∧ RX X as H0 d u t) (hsz : b + (listText ts).length ≤ sizeLine)
    (hR : ∀ s' H' u, Inv X pins σ H' s' → Same H H' → R (.ok (.ret (.str (listText ts) u))) s') (hE : ∀ e s', X.xe e s' → R (.error e) s') :
    wpAny (model X.prog X.w) A.in1 (Builtin.listReprAt b ⟨[.ref a], []⟩) (fun fin s' => match fin with | .done f => R (.ok f) s' | .again c' => c'.quiet = true ∧ codeAny (model X.prog X.w) A c' R s') (fun e s' => R (.error e) s') s := by
  obtain ⟨_, its, n, rv, el, e⟩ := I.lstM (sm _ _ ha)
  obtain ⟨x, rest, rfl⟩ : ∃ x rest, its = x :: rest := by
    cases its with
    | nil => exact absurd (List.eq_nil_of_length_eq_zero (by simpa using el)) hne
    | cons x rest => exact ⟨x, rest, rfl⟩
  have ca := hcl a (.head _)
  refine wpAny_list_repr_head (A := A.in1) hg (fun v rest kw hm => listSameRef_of_ne (ca _ _ _ _ hm)) e rfl (wpAny_bind (m := newList []) (wpAny_newObj_type (wpAny_pure ⟨PySem.F.quiet_list_repr_loop _, ?_⟩)))
  have I1 := I.lnew (ys := []) (its := []) (t' := s.toks) .nil (Nat.zero_le _)
  exact rx_loop (p := s.heap.objs.size) hg (fun c hc => hcl c (.tail _ hc)) hr hf hna sm (sm _ _ ha) I.fresh hl hT hsz hR hE ts.length 0 _ (upd H s.heap.objs.size (.lst [])) rfl (Nat.zero_le _) (fun c o hc => by rw [upd_ne (ne_of_none hc I.fresh)]; exact hc) upd_same I1
theorem lst_ty {pins : List (Addr × Obj)} {σ : St} {H : Hp} {s : Shared} {a : Addr} {vs : List V} (I : Inv X pins σ H s) (ha : H a = some (.lst vs)) : s.TypeIs (.ref a) "list" := by
  obtain ⟨_, its, n, rv, el, e⟩ := I.lstM ha
  exact ⟨_, e, rfl⟩
theorem RX.list {a : Addr} {vs : List V} {ts : List Str} (ha : H0 a = some (.lst vs)) (hne : vs ≠ []) (hna : a ∉ as) (hl : vs.length = ts.length) (hT : ∀ (i : Nat) (v : V) (u : Value), vs[i]? = some v → RelV v u → ∃ t, ts[i]? = some t ∧ RX X as H0 d u t) : RX X (a :: as) H0 (d + 1) (.ref a) (listText ts) := by
  intro b A g E pins σ H s Q hb hg hc hr hf hE sm I hQ
  have ty := lst_ty I (sm _ _ ha)
  refine wpAny_pyReprUnder_ref (by omega) (wpAny_pyReprObjUnder_twin (twin := "list.__repr__.under") ty PySem.F.slot_list_repr.toG rfl (by have := hr.un; omega) ?_)
  exact call_twin_plain PySem.F.plain_list_repr_under PySem.F.entry_list_repr_under PySem.F.check_list_repr_under ty PySem.F.slot_list_repr.toG (PySem.F.args_list_repr_1 _) (rx_listAt (R := callEnd _ E) hg hc hr hf hna sm I ha hne hl hT hb (fun s' H' u I' s2 => ⟨⟨_, _, rfl⟩, _, _, rfl, hQ s' H' I' s2⟩) fun e s' q => hE e s' q)
theorem RX.nil {a : Addr} (ha : H0 a = some (.lst [])) : RX X as H0 d (.ref a) "[]" := by
  intro b A g E pins σ H s Q hb hg hc hr hf hE sm I hQ
  obtain ⟨_, its, n, rv, el, e⟩ := I.lstM (sm _ _ ha)
  cases rv
  exact wpAny_pyReprUnder_ref (by omega) (wpAny_pyReprObjUnder_list_empty (lst_ty I (sm _ _ ha)) (by have := hr.un; omega) e rfl ⟨_, _, rfl, hQ _ H (I.tok _) (Same.refl _)⟩)
end
theorem relV_ex (v : V) : ∃ u, RelV v u := by
  cases v with
  | int i => exact ⟨.int i 0, 0, rfl⟩
  | str i => exact ⟨.str i 0, 0, rfl⟩
  | byt i => exact ⟨.bytes i 0, 0, rfl⟩
  | flt i => exact ⟨.float i 0, 0, rfl⟩
  | _ => exact ⟨_, rfl⟩
theorem vals_ex : ∀ xs : List V, ∃ us, Vals xs us
  | [] => ⟨[], .nil⟩
  | x :: xs => let ⟨u, h⟩ := relV_ex x; let ⟨us, hs⟩ := vals_ex xs; ⟨u :: us, .cons h hs⟩
theorem vals_with : ∀ {xs : List V} {i : Nat} {v : V} {u : Value}, RelV v u → xs[i]? = some v → ∃ us, Vals xs us ∧ us[i]? = some u
  | [], _, _, _, _, hv => by simp at hv
  | x :: xs, 0, _, u, ru, hv => by
    cases hv
    obtain ⟨us, h⟩ := vals_ex xs
    exact ⟨u :: us, .cons ru h, rfl⟩
  | x :: xs, i + 1, _, u, ru, hv => by
    obtain ⟨us, h1, h2⟩ := vals_with (xs := xs) (i := i) ru (by simpa using hv)
    obtain ⟨w, hw⟩ := relV_ex x
    exact ⟨w :: us, .cons hw h1, by simpa using h2⟩
/-! ### tuples -/
inductive RXs (X : Cx) (as : List Addr) (H0 : Hp) (d : Nat) : List Value → List Str → Prop
  | nil : RXs X as H0 d [] []
  | cons {u : Value} {t : Str} {us : List Value} {ts : List Str} (h1 : RX X as H0 d u t) (h2 : RXs X as H0 d us ts) : RXs X as H0 d (u :: us) (t :: ts)
section
variable {X : Cx} {as as' : List Addr} {H0 : Hp} {d d' : Nat} {u : Value} {t : Str} {C : Addr}
theorem RXs.len {us : List Value} {ts : List Str} (h : RXs X as H0 d us ts) : ts.length = us.length := by
  induction h with
  | nil => rfl
  | cons _ _ ih => rw [List.length_cons, List.length_cons, ih]
theorem RXs.more {us : List Value} {ts : List Str} (h : RXs X as H0 d us ts) (m : ∀ c ∈ as, c ∈ as') (l : d ≤ d') : RXs X as' H0 d' us ts := by
  induction h with
  | nil => exact .nil
  | cons h1 _ ih => exact .cons (h1.more m l) ih
theorem RXs.item {us : List Value} {ts : List Str} (h : RXs X as H0 d us ts) : ∀ (i : Nat) (u : Value), us[i]? = some u → ∃ t, ts[i]? = some t ∧ RX X as H0 d u t := by
  induction h with
  | nil => intro i u e; simp at e
  | cons h1 _ ih =>
    intro i u e
    cases i with
    | zero => cases e; exact ⟨_, rfl, h1⟩
    | succ i => obtain ⟨t, h3, h4⟩ := ih i u (by simpa using e); exact ⟨t, by simpa using h3, h4⟩
theorem rx_fold {pins : List (Addr × Obj)} {σ : St} {A : Around} {g : List Code} {E : Value → Shared → Prop} (hg : A.guards = some g) (hcl : ∀ c ∈ as, Clear g c) (hr : RoomH (d + 2) A) (hf : A.frames = some X.stack) (hE : ∀ e s', X.xe e s' → E e s') {us : List Value} {ts : List Str} (h : RXs X as H0 d us ts) :
    ∀ (acc : Array Str) (n : Nat) (s : Shared) (H : Hp) (Q : (Array Str × Nat) → Shared → Prop), n + piled ts ≤ sizeLine → Same H0 H → Inv X pins σ H s → (∀ s' H', Inv X pins σ H' s' → Same H H' → Q ⟨acc ++ ts.toArray, n + piled ts⟩ s') → wpAny (model X.prog X.w) A (forIn us (⟨acc, n⟩ : (Array Str × Nat)) tupBody) Q E s := by
  induction h with
  | nil =>
    intro acc n s H Q hn sm I q
    have q0 := q s H I (Same.refl _)
    rw [List.forIn_nil]
    exact wpAny_pure (by simpa [piled] using q0)
  | @cons u t us ts h1 h2 ih =>
    intro acc n s H Q hn sm I q
    rw [piled_cons] at hn
    rw [List.forIn_cons]
    refine wpAny_bind (wpAny_bind (h1 (n + 1) A g E pins σ H s _ (by omega) hg hcl hr hf hE sm I fun s' H' I' s2 => wpAny_pure ?_))
    refine ih (acc.push t) (n + (t.length + 2)) s' H' Q (by omega) (sm.trans s2) I' fun s3 H3 I3 s4 => ?_
    have q1 := q s3 H3 I3 (s2.trans s4)
    rw [show n + piled (t :: ts) = n + (t.length + 2) + piled ts by rw [piled_cons]; omega] at q1
    simpa using q1
theorem tup_ty {pins : List (Addr × Obj)} {σ : St} {H : Hp} {s : Shared} {a : Addr} {vs : List V} (I : Inv X pins σ H s) (ha : H a = some (.tup vs)) : s.TypeIs (.ref a) "tuple" := by
  obtain ⟨_, its, rv, o, e, hc, n, hd⟩ := (show ObjOk X.prog X.w H s.heap a (.tup vs) from I.hok a _ ha)
  exact ⟨o, e, hc⟩
theorem rx_tupAt {pins : List (Addr × Obj)} {σ : St} {b : Nat} {A : Around} {g : List Code} {R : Result → Shared → Prop} {H : Hp} {s : Shared} {a : Addr} {vs : List V} {ts : List Str} {id : String} {rest : List Value} (wt : (Code.builtin id ⟨.ref a :: rest, []⟩).weight = 1) (gd : (Code.builtin id ⟨.ref a :: rest, []⟩).isGuard = true) (un : (A.under (.builtin id ⟨.ref a :: rest, []⟩)).units = A.units + 1)
    (hg : A.guards = some g) (hcl : ∀ c ∈ a :: as, Clear g c) (hr : RoomH (d + 3) A) (hf : A.frames = some X.stack) (hna : a ∉ as) (sm : Same H0 H) (I : Inv X pins σ H s) (ha : H0 a = some (.tup vs)) (hT : ∀ us, Vals vs us → RXs X as H0 d us ts) (hsz : b + (tupleText ts).length ≤ sizeLine)
    (hR : ∀ s' H' u, Inv X pins σ H' s' → Same H H' → R (.ok (.ret (.str (tupleText ts) u))) s') (hE : ∀ e s', X.xe e s' → R (.error e) s') :
    wpOwn (model X.prog X.w) A (.builtin id ⟨.ref a :: rest, []⟩) (Builtin.tupleReprAt b ⟨[.ref a], []⟩) (fun fin s' => match fin with | .done f => R (.ok f) s' | .again c' => c'.quiet = true ∧ codeAny (model X.prog X.w) A c' R s') (fun e s' => R (.error e) s') s := by
  obtain ⟨_, its, rv, o, e, hc, n, hd⟩ := (show ObjOk X.prog X.w H s.heap a (.tup vs) from I.hok a _ (sm _ _ ha))
  have ca := hcl a (.head _)
  have hx := hT its rv
  have hlen := hx.len
  have hp := piled_le_tupleText ts
  rw [tuple_repr_tree, tupleReprUnderWay_eq]
  refine wpOwn_bind (wpOwn_stackTailAny hg (tupGuardF_off _) (tupGuardF_pos _) ?_)
  rw [show (g.any fun c => tupGuardF (.ref a) (c, default)) = false from List.any_eq_false.mpr fun c hm => by rw [tupGuardF_of_clear ca c hm]; exact Bool.false_ne_true]
  refine wpOwn_of_wpAny ?_
  show wpAny _ _ (tupleReprRest b (.ref a)) _ _ s
  unfold tupleReprRest Builtin.Tuple.tupleItemsOf
  refine wpAny_bind (wpAny_bind (wpAny_seqItems e hd (wpAny_pure ?_)))
  rw [← Array.forIn_toList]
  refine wpAny_bind (rx_fold (guards_under_guard gd hg) (fun c hc => (hcl c (.tail _ hc)).cons (a := a) fun z => hna (z ▸ hc)) (room_und hr wt un) (by rw [und_frG]; exact hf) (fun e s' q => hE e s' q) hx _ _ s H _ (by omega) sm I fun s' H' I' s2 => ?_)
  have h1 := hR { s' with toks := s'.toks + 1 } H' s'.toks (I'.tok _) s2
  exact wpAny_bind (wpAny_mkStr (wpAny_pure (by simpa [tupleText, hlen] using h1)) (by have : (tupleText ts).length ≤ sizeLine := by omega
                                                                                       simpa [tupleText, hlen] using this))
theorem RX.tup {a : Addr} {vs : List V} {ts : List Str} (ha : H0 a = some (.tup vs)) (hna : a ∉ as) (hT : ∀ us, Vals vs us → RXs X as H0 d us ts) : RX X (a :: as) H0 (d + 1) (.ref a) (tupleText ts) := by
  intro b A g E pins σ H s Q hb hg hc hr hf hE sm I hQ
  have ty := tup_ty I (sm _ _ ha)
  refine wpAny_pyReprUnder_ref (by omega) (wpAny_pyReprObjUnder_twin (twin := "tuple.__repr__.under") ty PySem.F.slot_tuple_repr rfl (by have := hr.un; omega) ?_)
  exact call_twin_own (PySem.F.quiet_tuple_repr_under _) PySem.F.entry_tuple_repr_under PySem.F.check_tuple_repr_under ty PySem.F.slot_tuple_repr (PySem.F.args_tuple_repr_1 _) (rx_tupAt (R := callEnd _ E) (wt_tupU _) (isGuard_tuple_repr_under _) (units_under_tuple_repr_under _ _) hg hc hr hf hna sm I ha hT hb (fun s' H' u I' s2 => ⟨⟨_, _, rfl⟩, _, _, rfl, hQ s' H' I' s2⟩) fun e s' q => hE e s' q)
/-! ### dicts -/
def kTxt : Key → Str
  | .inl i => (toString i : String)
  | .inr x => reprText x
def kOk : Key → Bool
  | .inl i => decide (i.natAbs.log2 < 1900)
  | .inr x => true
theorem RX.key {k : Key} {u : Value} (h : keyIs k u = true) (ok : kOk k = true) : RX X as H0 d u (kTxt k) := by
  rcases keyIs_shape h with ⟨i, t, rfl, rfl⟩ | ⟨x, t, rfl, rfl⟩
  · exact RX.of_is fun _ => ReprIs.int t (by have : i.natAbs.log2 < 1900 := of_decide_eq_true ok
                                             omega)
  · exact RX.of_is fun z => ReprIs.str x t z
inductive RXe (X : Cx) (as : List Addr) (H0 : Hp) (d : Nat) : List DictEntry → List Str → Prop
  | nil : RXe X as H0 d [] []
  | cons {e : DictEntry} {k t : Str} {es : List DictEntry} {ts : List Str} (h0 : RX X as H0 d e.key k) (h1 : RX X as H0 d e.val t) (h2 : RXe X as H0 d es ts) : RXe X as H0 d (e :: es) ((k ++ ": " ++ t) :: ts)
theorem RXe.len {es : List DictEntry} {ts : List Str} (h : RXe X as H0 d es ts) : ts.length = es.length := by
  induction h with
  | nil => rfl
  | cons _ _ _ ih => rw [List.length_cons, List.length_cons, ih]
theorem RXe.item {es : List DictEntry} {ts : List Str} (h : RXe X as H0 d es ts) : ∀ (i : Nat) (e : DictEntry), es[i]? = some e → ∃ k t : Str, ts[i]? = some (k ++ ": " ++ t) ∧ RX X as H0 d e.key k ∧ RX X as H0 d e.val t := by
  induction h with
  | nil => intro i u e; simp at e
  | cons h0 h1 _ ih =>
    intro i u e
    cases i with
    | zero => cases e; exact ⟨_, _, rfl, h0, h1⟩
    | succ i => obtain ⟨k, t, h3, h4⟩ := ih i u (by simpa using e); exact ⟨k, t, by simpa using h3, h4⟩
theorem rx_entries {ks : List (Key × V)} {ts : List Str} (ok : (ks.all fun k => kOk k.1) = true) (hT : ∀ us, Vals (ks.map (·.2)) us → RXs X as H0 d us ts) : ∀ {vs : List (Key × Value)} {es : List DictEntry}, KV ks vs → Pairs (mixKind X.prog X.w) es vs → RXe X as H0 d es ((ks.zip ts).map fun z => kTxt z.1.1 ++ ": " ++ z.2) := by
  induction ks generalizing ts with
  | nil =>
    intro vs es kv ps
    cases kv
    cases ps
    cases hT [] .nil
    exact .nil
  | cons k ks ih =>
    intro vs es kv ps
    cases kv with
    | @cons _ v _ vs' r kv' =>
      cases ps with
      | @cons e _ es' _ hk hv ps' =>
        rw [List.all_cons, Bool.and_eq_true] at ok
        have hu : ∀ us, Vals (ks.map (·.2)) us → RXs X as H0 d (v.2 :: us) ts := fun us h => hT _ (.cons r.2 h)
        have us' : ∃ us, Vals (ks.map (·.2)) us := by
          clear ih hT hu ok ps' hk hv r ts
          induction kv' with
          | nil => exact ⟨[], .nil⟩
          | cons r _ ih => obtain ⟨us, h⟩ := ih; exact ⟨_, .cons r.2 h⟩
        obtain ⟨us, hus⟩ := us'
        cases hu us hus with
        | @cons _ t _ ts' h1 h2 =>
          refine .cons (RX.key (by rw [r.1]; exact hk) ok.1) (by rw [hv]; exact h1) (ih (ts := ts') ok.2 (fun us2 h => ?_) kv' ps')
          cases hu us2 h with
          | cons _ h3 => exact h3
theorem dic_ty {pins : List (Addr × Obj)} {σ : St} {H : Hp} {s : Shared} {a : Addr} {ks : List (Key × V)} (I : Inv X pins σ H s) (ha : H a = some (.dK ks)) : s.TypeIs (.ref a) "dict" := by
  obtain ⟨_, hy, vs, kv, o, es, ep, e, hx, hd, hr⟩ := (show ObjOk X.prog X.w H s.heap a (.dK ks) from I.hok a _ ha)
  exact ⟨o, e, hx.1⟩
/-- the heap without a place -/
def less (H : Hp) (a : Addr) : Hp := fun c => if c = a then none else H c
theorem less_ne {H : Hp} {a c : Addr} (h : c ≠ a) : less H a c = H c := if_neg h
theorem less_at {H : Hp} {a c : Addr} {o : HO} (h : less H a c = some o) : c ≠ a ∧ H c = some o := by
  unfold less at h
  split at h
  · cases h
  · rename_i z; exact ⟨z, h⟩
theorem rx_dicAt {pins : List (Addr × Obj)} {σ : St} {b : Nat} {A : Around} {g : List Code} {R : Result → Shared → Prop} {H : Hp} {s : Shared} {a : Addr} {ks : List (Key × V)} {ts : List Str} {id : String} {rest : List Value} (wt : (Code.builtin id ⟨.ref a :: rest, []⟩).weight = 1) (gd : (Code.builtin id ⟨.ref a :: rest, []⟩).isGuard = true) (un : (A.under (.builtin id ⟨.ref a :: rest, []⟩)).units = A.units + 1)
    (hg : A.guards = some g) (hcl : ∀ c ∈ a :: as, Clear g c) (hr : RoomH (d + 3) A) (hf : A.frames = some X.stack) (hna : a ∉ as) (sm : Same H0 H) (I : Inv X pins σ H s) (ha : H0 a = some (.dK ks)) (hT : ∀ vs es, KV ks vs → Pairs (mixKind X.prog X.w) es vs → RXe X as (less H0 a) d es ts) (hsz : b + (dictText ts).length ≤ sizeLine)
    (hR : ∀ s' H' u, Inv X pins σ H' s' → Same H H' → R (.ok (.ret (.str (dictText ts) u))) s') (hE : ∀ e s', X.xe e s' → R (.error e) s') :
    wpOwn (model X.prog X.w) A (.builtin id ⟨.ref a :: rest, []⟩) (Builtin.dictReprAt b ⟨[.ref a], []⟩) (fun fin s' => match fin with | .done f => R (.ok f) s' | .again c' => c'.quiet = true ∧ codeAny (model X.prog X.w) A c' R s') (fun e s' => R (.error e) s') s := by
  have ty := dic_ty I (sm _ _ ha)
  have ca := hcl a (.head _)
  have hp3 := piled_le_dictText ts
  have ha' := sm _ _ ha
  obtain ⟨o, IL⟩ := I.lock ha' trivial
  have nofr := I.nofrz ha' trivial
  obtain ⟨e, _, hsys, vs, kv, o', es, ep, e0, hx0, hd, _, hr2, _⟩ := (show ObjOk X.prog X.w _ s.heap a (.frz o (.dK ks)) from IL.hok a _ upd_same)
  rw [e] at e0
  cases e0
  have hx := hT vs _ kv hr2
  have smL : Same (less H0 a) (upd H a (.frz o (.dK ks))) := fun c u hc => by
    obtain ⟨ne, h0⟩ := less_at hc
    rw [upd_ne ne]
    exact sm _ _ h0
  have back : ∀ {s' : Shared} {H' : Hp}, Inv X pins σ H' s' → Same (upd H a (.frz o (.dK ks))) H' → Inv X pins σ (upd H' a (.dK ks)) s' ∧ Same H (upd H' a (.dK ks)) := fun I' s2 => by
    refine ⟨I'.unlock (s2 _ _ upd_same) nofr, fun c u hc => ?_⟩
    by_cases z : c = a
    · rw [z, ha'] at hc
      cases hc
      rw [z, upd_same]
    · rw [upd_ne z]
      exact s2 _ _ (by rw [upd_ne z]; exact hc)
  have at_ : ∀ {s' : Shared} {H' : Hp}, Inv X pins σ H' s' → Same (upd H a (.frz o (.dK ks))) H' → s'.heap.get? a = some o := fun I' s2 => (show ObjOk X.prog X.w _ _ a (.frz o (.dK ks)) from I'.hok a _ (s2 _ _ upd_same)).1
  unfold Builtin.dictReprAt
  refine wpOwn_bind (wpOwn_of_wpAny ?_)
  unfold Builtin.Dict.dictSlotNone
  refine wpAny_bind (wpAny_notOrdered_dict ty ?_)
  show wpAny _ _ (pure (Value.ref a)) _ _ s
  refine wpAny_pure ?_
  rw [dictReprRunning_eq]
  refine wpOwn_bind (wpOwn_stackTailAny hg (dictGuardF_off _) (dictGuardF_pos _) ?_)
  rw [show (g.any fun c => dictGuardF (.ref a) (c, default)) = false from List.any_eq_false.mpr fun c hm => by rw [dictGuardF_of_clear ca c hm]; exact Bool.false_ne_true]
  refine wpOwn_of_wpAny ?_
  have hg' := guards_under_guard gd hg
  have hcl' : ∀ c ∈ as, Clear (.builtin id ⟨.ref a :: rest, []⟩ :: g) c := fun c hc => (hcl c (.tail _ hc)).cons (a := a) fun z => hna (z ▸ hc)
  have hr' := room_und hr wt un
  have hf' : (A.under (.builtin id ⟨.ref a :: rest, []⟩)).frames = some X.stack := by rw [und_frG]; exact hf
  show wpAny _ _ (Builtin.Dict.addrOf (.ref a) >>= _) _ _ s
  refine wpAny_bind (wpAny_pure ?_)
  show wpAny _ _ (Builtin.Dict.showsAll a >>= _) _ _ s
  unfold Builtin.Dict.showsAll
  rw [if_neg (by rw [hsys]; exact Bool.false_ne_true)]
  have hlen : ts.length = es.size := by simpa using hx.len
  refine wpAny_bind (wpAny_pure (wpAny_bind (wpAny_dictEpoch e hd (wpAny_bind (wpAny_dictEntries e hd (wpAny_bind ?_))))))
  rw [Std.Legacy.Range.forIn_eq_forIn_range']
  simp only [Std.Legacy.Range.size, Nat.sub_zero, Nat.add_sub_cancel, Nat.div_one]
  refine wpAny_forIn_list _ (fun rest' r s' => ∃ i H', rest' = List.range' i (es.size - i) ∧ i ≤ es.size ∧ r = (⟨(ts.take i).toArray, b + piled (ts.take i)⟩ : (Array Str × Nat)) ∧ Inv X pins σ H' s' ∧ Same (upd H a (.frz o (.dK ks))) H') _ ?_ ?_ _ _ ⟨0, _, by simp, Nat.zero_le _, by simp [piled], IL, Same.refl _⟩
  · rintro x rest' _ s' ⟨i, H', hr0, hi, rfl, I', s2⟩
    have hlt : i < es.size := by
      rcases Nat.lt_or_ge i es.size with h | h
      · exact h
      · rw [Nat.sub_eq_zero_of_le h] at hr0
        simp at hr0
    obtain ⟨rfl, hrest⟩ : x = i ∧ rest' = List.range' (i + 1) (es.size - (i + 1)) := by
      rw [show es.size - i = (es.size - (i + 1)) + 1 by omega, List.range'_succ] at hr0
      injection hr0 with h1 h2
      exact ⟨h1, h2⟩
    obtain ⟨k, v, hp, rk, rv⟩ := hx.item x es[x] (by simp [hlt])
    have hpl : (k ++ ": " ++ v).length = k.length + 2 + v.length := by rw [strLen_append, strLen_append]; rfl
    have hp1 := piled_take_succ hp
    have hp2 := piled_take_le ts (x + 1)
    rw [hpl] at hp1
    refine wpAny_bind (wpAny_dictEntries (at_ I' s2) hd ?_)
    rw [Array.getElem?_eq_getElem hlt]
    refine wpAny_bind (wpAny_holding (wpAny_bind (rk (b + piled (ts.take x) + 1) _ _ _ pins σ H' s' _ (by omega) hg' hcl' hr' hf' (fun e s' q => hE e s' q) (smL.trans s2) I' fun s3 H3 I3 s4 => wpAny_bind (rv (b + piled (ts.take x) + (k.length + 3)) _ _ _ pins σ H3 s3 _ (by omega) hg' hcl' hr' hf' (fun e s' q => hE e s' q) (smL.trans (s2.trans s4)) I3 fun s5 H5 I5 s6 => wpAny_pure ?_))))
    refine wpAny_bind (wpAny_dictEpoch (at_ I5 (s2.trans (s4.trans s6))) hd ?_)
    rw [if_neg (by simp)]
    have e1 : (ts.take x).toArray.push (k ++ ": " ++ v) = (ts.take (x + 1)).toArray := by
      rw [List.take_add_one, hp]
      simp
    have e2 : b + piled (ts.take x) + (k.length + v.length + 4) = b + piled (ts.take (x + 1)) := by omega
    refine wpAny_pure ⟨x + 1, H5, hrest, hlt, ?_, I5, s2.trans (s4.trans s6)⟩
    rw [e1, e2]
  · rintro _ s' ⟨i, H', hr0, hi, rfl, I', s2⟩
    have hin : i = es.size := by
      rcases Nat.lt_or_ge i es.size with h | h
      · rw [show es.size - i = (es.size - (i + 1)) + 1 by omega, List.range'_succ] at hr0
        exact nomatch hr0
      · exact Nat.le_antisymm hi h
    rw [hin, ← hlen, List.take_length]
    obtain ⟨I2, s3⟩ := back I' s2
    have h1 := hR { s' with toks := s'.toks + 1 } _ s'.toks (I2.tok _) s3
    have hz : (dictText ts).length ≤ sizeLine := by omega
    exact wpAny_bind (wpAny_mkStr (wpAny_pure (by simpa [dictText] using h1)) (by simpa [dictText] using hz))
theorem RX.dic {a : Addr} {ks : List (Key × V)} {ts : List Str} (ha : H0 a = some (.dK ks)) (hna : a ∉ as) (hT : ∀ vs es, KV ks vs → Pairs (mixKind X.prog X.w) es vs → RXe X as (less H0 a) d es ts) : RX X (a :: as) H0 (d + 1) (.ref a) (dictText ts) := by
  intro b A g E pins σ H s Q hb hg hc hr hf hE sm I hQ
  have ty := dic_ty I (sm _ _ ha)
  refine wpAny_pyReprUnder_ref (by omega) (wpAny_pyReprObjUnder_twin (twin := "dict.__repr__.under") ty PySem.F.slot_dict_repr rfl (by have := hr.un; omega) ?_)
  exact call_twin_own (PySem.F.quiet_dict_repr_under _) PySem.F.entry_dict_repr_under PySem.F.check_dict_repr_under ty PySem.F.slot_dict_repr (PySem.F.args_dict_repr_1 _) (rx_dicAt (R := callEnd _ E) (wt_dicU _) (isGuard_dict_repr_under _) (units_under_dict_repr_under _ _) hg hc hr hf hna sm I ha hT hb (fun s' H' u I' s2 => ⟨⟨_, _, rfl⟩, _, _, rfl, hQ s' H' I' s2⟩) fun e s' q => hE e s' q)
end
/-! ### data -/
mutual
def depx : D → Nat
  | .lst l => depxs l + 1
  | .tup l => depxs l + 1
  | .dic _ l => depxs l + 1
  | _ => 0
def depxs : List D → Nat
  | [] => 0
  | d :: l => max (depx d) (depxs l)
end
mutual
def tx : D → Str
  | .non => "None"
  | .bl b => if b then "True" else "False"
  | .int i => (toString i : String)
  | .str x => reprText x
  | .lst l => listText (txs l)
  | .tup l => tupleText (txs l)
  | .dic ks l => dictText ((ks.zip (txs l)).map fun z => kTxt z.1 ++ ": " ++ z.2)
  | .rat q => Fu.rTxt q.num q.den
  | .obj _ _ => ""
def txs : List D → List Str
  | [] => []
  | d :: l => tx d :: txs l
end
mutual
def shx : D → Bool
  | .int i => decide (i.natAbs.log2 < 1900)
  | .lst l => shxs l
  | .tup l => shxs l
  | .dic ks l => shxs l && ks.all kOk
  | .rat q => decide (q.num.natAbs.log2 < 1900) && decide (q.den.log2 < 1900)
  | .obj _ _ => false
  | _ => true
def shxs : List D → Bool
  | [] => true
  | d :: l => shx d && shxs l
end
section
variable {Γ : Ct} {H : Hp}
mutual
theorem depx_eq : ∀ {d d' : D} {v : V}, At Γ H d v → At Γ H d' v → depx d = depx d'
  | .lst l, d', v, h, h' => by
    obtain ⟨a, xs, rfl, ha, hs⟩ := h
    cases d' with
    | lst l' =>
      obtain ⟨a', xs', e, ha', hs'⟩ := h'
      cases e
      rw [ha] at ha'
      cases ha'
      show depxs l + 1 = depxs l' + 1
      rw [depx_eqs hs hs']
    | tup l' => obtain ⟨a', xs', e, ha', hs'⟩ := h'; cases e; rw [ha] at ha'; cases ha'
    | dic ks' l' => obtain ⟨a', xs', e, ha', hs'⟩ := h'; cases e; rw [ha] at ha'; cases ha'
    | rat q => obtain ⟨a', xs', e, ha'⟩ := h'; cases e; rw [ha] at ha'; cases ha'
    | obj c l' => obtain ⟨a', dx', fs', e, ha', hs'⟩ := h'; cases e; rw [ha] at ha'; cases ha'
    | _ => cases h'
  | .tup l, d', v, h, h' => by
    obtain ⟨a, xs, rfl, ha, hs⟩ := h
    cases d' with
    | tup l' =>
      obtain ⟨a', xs', e, ha', hs'⟩ := h'
      cases e
      rw [ha] at ha'
      cases ha'
      show depxs l + 1 = depxs l' + 1
      rw [depx_eqs hs hs']
    | lst l' => obtain ⟨a', xs', e, ha', hs'⟩ := h'; cases e; rw [ha] at ha'; cases ha'
    | dic ks' l' => obtain ⟨a', xs', e, ha', hs'⟩ := h'; cases e; rw [ha] at ha'; cases ha'
    | rat q => obtain ⟨a', xs', e, ha'⟩ := h'; cases e; rw [ha] at ha'; cases ha'
    | obj c l' => obtain ⟨a', dx', fs', e, ha', hs'⟩ := h'; cases e; rw [ha] at ha'; cases ha'
    | _ => cases h'
  | .dic ks l, d', v, h, h' => by
    obtain ⟨a, xs, rfl, ha, hk, hs⟩ := h
    cases d' with
    | dic ks' l' =>
      obtain ⟨a', xs', e, ha', hk', hs'⟩ := h'
      cases e
      rw [ha] at ha'
      cases ha'
      show depxs l + 1 = depxs l' + 1
      rw [depx_eqs hs hs']
    | lst l' => obtain ⟨a', xs', e, ha', hs'⟩ := h'; cases e; rw [ha] at ha'; cases ha'
    | tup l' => obtain ⟨a', xs', e, ha', hs'⟩ := h'; cases e; rw [ha] at ha'; cases ha'
    | rat q => obtain ⟨a', xs', e, ha'⟩ := h'; cases e; rw [ha] at ha'; cases ha'
    | obj c l' => obtain ⟨a', dx', fs', e, ha', hs'⟩ := h'; cases e; rw [ha] at ha'; cases ha'
    | _ => cases h'
  | .non, d', v, h, h' => by
    cases h
    cases d' <;> first | rfl | (obtain ⟨a', xs', e, _⟩ := h'; cases e)
  | .bl b, d', v, h, h' => by
    cases h
    cases d' <;> first | rfl | (obtain ⟨a', xs', e, _⟩ := h'; cases e)
  | .int b, d', v, h, h' => by
    cases h
    cases d' <;> first | rfl | (obtain ⟨a', xs', e, _⟩ := h'; cases e)
  | .str b, d', v, h, h' => by
    cases h
    cases d' <;> first | rfl | (obtain ⟨a', xs', e, _⟩ := h'; cases e)
  | .rat q, d', v, h, h' => by
    obtain ⟨a, dx, rfl, ha⟩ := h
    cases d' with
    | lst l' => obtain ⟨a', xs', e, ha', hs'⟩ := h'; cases e; rw [ha] at ha'; cases ha'
    | tup l' => obtain ⟨a', xs', e, ha', hs'⟩ := h'; cases e; rw [ha] at ha'; cases ha'
    | dic ks' l' => obtain ⟨a', xs', e, ha', hs'⟩ := h'; cases e; rw [ha] at ha'; cases ha'
    | _ => rfl
  | .obj c l, d', v, h, h' => by
    obtain ⟨a, dx, fs, rfl, ha, _⟩ := h
    cases d' with
    | lst l' => obtain ⟨a', xs', e, ha', hs'⟩ := h'; cases e; rw [ha] at ha'; cases ha'
    | tup l' => obtain ⟨a', xs', e, ha', hs'⟩ := h'; cases e; rw [ha] at ha'; cases ha'
    | dic ks' l' => obtain ⟨a', xs', e, ha', hs'⟩ := h'; cases e; rw [ha] at ha'; cases ha'
    | _ => rfl
theorem depx_eqs : ∀ {l l' : List D} {xs : List V}, Ats Γ H l xs → Ats Γ H l' xs → depxs l = depxs l'
  | [], l', xs, h, h' => by
    cases h
    cases l' with
    | nil => rfl
    | cons d' l' => obtain ⟨x, r, e, _⟩ := h'; cases e
  | d :: l, l', xs, h, h' => by
    obtain ⟨x, r, rfl, h1, h2⟩ := h
    cases l' with
    | nil => cases h'
    | cons d' l' =>
      obtain ⟨x', r', e, h1', h2'⟩ := h'
      cases e
      show max (depx d) (depxs l) = max (depx d') (depxs l')
      rw [depx_eq h1 h1', depx_eqs h2 h2']
end
mutual
/-- what is less deep than the thing at a does not lie at a -/
theorem At.less {a : Addr} {D' : D} (hD : At Γ H D' (.ref a)) (h1 : 1 ≤ depx D') : ∀ {e : D} {v : V}, depx e < depx D' → shx e = true → At Γ H e v → At Γ (Mi.less H a) e v
  | .non, _, _, _, h => h
  | .bl _, _, _, _, h => h
  | .int _, _, _, _, h => h
  | .str _, _, _, _, h => h
  | .lst l, _, hd, hs, h => by
    obtain ⟨c, xs, rfl, hc, hl⟩ := h
    have ne : c ≠ a := fun z => by
      subst z
      have := depx_eq (Γ := Γ) (H := H) (d := .lst l) (d' := D') ⟨c, xs, rfl, hc, hl⟩ hD
      omega
    exact ⟨c, xs, rfl, by rw [less_ne ne]; exact hc, Ats.less hD h1 (by have : depxs l + 1 < depx D' := hd; omega) hs hl⟩
  | .tup l, _, hd, hs, h => by
    obtain ⟨c, xs, rfl, hc, hl⟩ := h
    have ne : c ≠ a := fun z => by
      subst z
      have := depx_eq (Γ := Γ) (H := H) (d := .tup l) (d' := D') ⟨c, xs, rfl, hc, hl⟩ hD
      omega
    exact ⟨c, xs, rfl, by rw [less_ne ne]; exact hc, Ats.less hD h1 (by have : depxs l + 1 < depx D' := hd; omega) hs hl⟩
  | .dic ks l, _, hd, hs, h => by
    obtain ⟨c, xs, rfl, hc, hk, hl⟩ := h
    have ne : c ≠ a := fun z => by
      subst z
      have := depx_eq (Γ := Γ) (H := H) (d := .dic ks l) (d' := D') ⟨c, xs, rfl, hc, hk, hl⟩ hD
      omega
    have hs' : (shxs l && ks.all kOk) = true := hs
    rw [Bool.and_eq_true] at hs'
    exact ⟨c, xs, rfl, by rw [less_ne ne]; exact hc, hk, Ats.less hD h1 (by have : depxs l + 1 < depx D' := hd; omega) hs'.1 hl⟩
  | .rat q, _, hd, hs, h => by
    obtain ⟨c, dx, rfl, hc⟩ := h
    have ne : c ≠ a := fun z => by
      subst z
      have := depx_eq (Γ := Γ) (H := H) (d := .rat q) (d' := D') ⟨c, dx, rfl, hc⟩ hD
      omega
    exact ⟨c, dx, rfl, by rw [less_ne ne]; exact hc⟩
theorem Ats.less {a : Addr} {D' : D} (hD : At Γ H D' (.ref a)) (h1 : 1 ≤ depx D') : ∀ {l : List D} {xs : List V}, depxs l < depx D' → shxs l = true → Ats Γ H l xs → Ats Γ (Mi.less H a) l xs
  | [], _, _, _, h => h
  | e :: l, _, hd, hs, h => by
    obtain ⟨x, r, rfl, g1, g2⟩ := h
    have hd' : max (depx e) (depxs l) < depx D' := hd
    have hs' : (shx e && shxs l) = true := hs
    rw [Bool.and_eq_true] at hs'
    exact ⟨x, r, rfl, At.less hD h1 (by omega) hs'.1 g1, Ats.less hD h1 (by omega) hs'.2 g2⟩
end
end
section
variable {X : Cx} {Γ : Ct} {f : Addr} {fd : FuncData}
def Few (Γ : Ct) (H : Hp) (n : Nat) (as : List Addr) : Prop := ∀ c ∈ as, ∃ d', depx d' ≤ n ∧ At Γ H d' (.ref c)
theorem few_nil {H : Hp} {n : Nat} : Few Γ H n [] := fun _ z => nomatch z
theorem Few.not {H : Hp} {n : Nat} {as : List Addr} {a : Addr} {d : D} (h : Few Γ H n as) (hd : At Γ H d (.ref a)) (hn : n < depx d) : a ∉ as := fun z => by
  obtain ⟨d', h1, h2⟩ := h a z
  have := depx_eq h2 hd
  omega
theorem Few.cons {H : Hp} {n : Nat} {as : List Addr} {a : Addr} {d : D} (h : Few Γ H n as) (hd : At Γ H d (.ref a)) (hn : n ≤ depx d) : Few Γ H (depx d) (a :: as) := fun c hc => by
  rcases List.mem_cons.mp hc with rfl | hc
  · exact ⟨d, Nat.le_refl _, hd⟩
  · obtain ⟨d', h1, h2⟩ := h c hc
    exact ⟨d', by omega, h2⟩
theorem less_same (H : Hp) (a : Addr) : Same (less H a) H := fun c o h => (less_at h).2
variable (T : Fu.ReprC X.prog X.w X.K X.mg X.base Γ.R f fd (Fu.spRepr Γ.R))
include T
mutual
theorem rx_at : ∀ {d : D} {v : V} {H0 : Hp}, At Γ H0 d v → shx d = true → ∃ as, Few Γ H0 (depx d) as ∧ ∀ u, RelV v u → RX X as H0 (depx d) u (tx d)
  | .non, _, _, h, _ => by
    cases h
    exact ⟨[], few_nil, fun u r => by cases r; exact RX.of_is fun _ => ReprIs.none⟩
  | .bl b, _, _, h, _ => by
    cases h
    exact ⟨[], few_nil, fun u r => by cases r; exact RX.of_is fun _ => ReprIs.bool b⟩
  | .int i, _, _, h, hs => by
    cases h
    have hs' : i.natAbs.log2 < 1900 := of_decide_eq_true hs
    exact ⟨[], few_nil, fun u r => by obtain ⟨t, rfl⟩ := r; exact RX.of_is fun _ => ReprIs.int t (by omega)⟩
  | .str x, _, _, h, _ => by
    cases h
    exact ⟨[], few_nil, fun u r => by obtain ⟨t, rfl⟩ := r; exact RX.of_is fun z => ReprIs.str x t z⟩
  | .rat q, _, _, h, hs => by
    obtain ⟨p, dx, rfl, hp⟩ := h
    have hs' : (decide (q.num.natAbs.log2 < 1900) && decide (q.den.log2 < 1900)) = true := hs
    rw [Bool.and_eq_true, decide_eq_true_eq, decide_eq_true_eq] at hs'
    exact ⟨[], few_nil, fun u r => by cases r; exact RX.rat T hp hs'.1 (by simpa using hs'.2)⟩
  | .lst l, _, H0, h, hs => by
    have hh := h
    obtain ⟨a, xs, rfl, ha, hl⟩ := h
    obtain ⟨as, few, hx⟩ := rx_ats hl hs
    refine ⟨a :: as, few.cons hh (Nat.le_succ _), fun u r => ?_⟩
    cases r
    show RX X (a :: as) H0 (depxs l + 1) (.ref a) (listText (txs l))
    cases l with
    | nil =>
      cases hl
      exact RX.nil ha
    | cons d l =>
      have hlen : xs.length = (txs (d :: l)).length := by
        rw [hl.len]
        clear hh ha hl few hx hs
        induction (d :: l) with
        | nil => rfl
        | cons d l ih => rw [List.length_cons, ih]; rfl
      have hne : xs ≠ [] := by
        obtain ⟨x, r, rfl, _⟩ := hl
        exact fun z => nomatch z
      have hna : a ∉ as := few.not hh (Nat.lt_succ_self _)
      refine RX.list ha hne hna hlen fun i v u hv ru => ?_
      have hus : ∃ us, Vals xs us ∧ us[i]? = some u := vals_with ru hv
      obtain ⟨us, h1, h2⟩ := hus
      exact (hx us h1).item i u h2
  | .tup l, _, H0, h, hs => by
    have hh := h
    obtain ⟨a, xs, rfl, ha, hl⟩ := h
    obtain ⟨as, few, hx⟩ := rx_ats hl hs
    refine ⟨a :: as, few.cons hh (Nat.le_succ _), fun u r => ?_⟩
    cases r
    exact RX.tup ha (few.not hh (Nat.lt_succ_self _)) hx
  | .dic ks l, _, H0, h, hs => by
    have hh := h
    obtain ⟨a, kvs, rfl, ha, hk, hl⟩ := h
    have hs' : (shxs l && ks.all kOk) = true := hs
    rw [Bool.and_eq_true] at hs'
    obtain ⟨as, few, hx⟩ := rx_ats (Ats.less hh (Nat.le_add_left 1 _) (Nat.lt_succ_self _) hs'.1 hl) hs'.1
    have few' : Few Γ H0 (depxs l) as := fun c hc => by
      obtain ⟨d', h1, h2⟩ := few c hc
      exact ⟨d', h1, h2.ex (less_same _ _)⟩
    refine ⟨a :: as, few'.cons hh (Nat.le_succ _), fun u r => ?_⟩
    cases r
    refine RX.dic ha (few'.not hh (Nat.lt_succ_self _)) fun vs es kv ps => ?_
    have q := rx_entries (X := X) (as := as) (H0 := less H0 a) (d := depxs l) (ks := kvs) (ts := txs l) (by
      have := hs'.2
      rw [← hk, List.all_map] at this
      exact this) hx kv ps
    have e : (kvs.zip (txs l)).map (fun z => kTxt z.1.1 ++ ": " ++ z.2) = (ks.zip (txs l)).map fun z => kTxt z.1 ++ ": " ++ z.2 := by
      rw [← hk, List.zip_map_left, List.map_map]
      rfl
    rw [e] at q
    exact q
theorem rx_ats : ∀ {l : List D} {xs : List V} {H0 : Hp}, Ats Γ H0 l xs → shxs l = true → ∃ as, Few Γ H0 (depxs l) as ∧ ∀ us, Vals xs us → RXs X as H0 (depxs l) us (txs l)
  | [], _, _, h, _ => by
    cases h
    exact ⟨[], few_nil, fun us r => by cases r; exact .nil⟩
  | d :: l, _, H0, h, hs => by
    obtain ⟨x, r, rfl, h1, h2⟩ := h
    have hs' : (shx d && shxs l) = true := hs
    rw [Bool.and_eq_true] at hs'
    obtain ⟨as, few, hx⟩ := rx_at h1 hs'.1
    obtain ⟨bs, few2, hx2⟩ := rx_ats h2 hs'.2
    have le1 : depx d ≤ depxs (d :: l) := Nat.le_max_left _ _
    have le2 : depxs l ≤ depxs (d :: l) := Nat.le_max_right _ _
    refine ⟨as ++ bs, fun c hc => ?_, fun us ru => ?_⟩
    · rcases List.mem_append.mp hc with z | z
      · obtain ⟨d', q1, q2⟩ := few c z
        exact ⟨d', by omega, q2⟩
      · obtain ⟨d', q1, q2⟩ := few2 c z
        exact ⟨d', by omega, q2⟩
    · cases ru with
      | cons r1 r2 => exact .cons ((hx _ r1).more (fun c hc => List.mem_append_left _ hc) le1) ((hx2 _ r2).more (fun c hc => List.mem_append_right _ hc) le2)
end
/-! ### the call -/
def rReprX (Γ : Ct) (k : Nat) : List V → Hp → VK → Prop := fun xs H Q => ∃ (d : D) (v : V), xs = [v] ∧ At Γ H d v ∧ shx d = true ∧ depx d ≤ k ∧ (tx d).length ≤ 1000000 ∧ ∀ H', Same H H' → Q (.str (tx d)) H'
theorem call_reprX {k : Nat} (hg : X.A.guards = some []) (hr : RoomH (k + 5) X.A) : CallR X (.builtin "repr") (rReprX Γ k) := by
  intro pins s σ H xs us Q I r h
  obtain ⟨d, v, rfl, a, sh, dk, sz, q⟩ := h
  have flat := Fu.call_reprD T hg (hr.mono (by omega)) pins s σ H [v] us Q I r
  have q0 := q H (Same.refl H)
  obtain ⟨u, rfl, ru⟩ := vals1 r
  have big : (tx d).length ≤ sizeLine := Nat.le_trans sz (by rw [sizeLine_eq]; decide)
  cases d with
  | non => exact flat ⟨.non, v, rfl, a, by decide +kernel, q0⟩
  | bl b => exact flat ⟨.bl b, v, rfl, a, by cases b <;> decide +kernel, q0⟩
  | int i =>
    have sh' : i.natAbs.log2 < 1900 := of_decide_eq_true sh
    refine flat ⟨.int i, v, rfl, a, ?_, q0⟩
    have sz' : ((toString i : String) : Str).length ≤ 1000000 := sz
    show (true && decide (i.natAbs.log2 < 1920) && decide ((Fu.pd (.int i)).depth ≤ 60) && decide (((toString i : String) : Str).length ≤ 1000000)) = true
    rw [decide_eq_true (show i.natAbs.log2 < 1920 by omega), decide_eq_true sz']
    rfl
  | str x =>
    refine flat ⟨.str x, v, rfl, a, ?_, q0⟩
    have sz' : (reprText x).length ≤ 1000000 := sz
    show (true && true && decide ((Fu.pd (.str x)).depth ≤ 60) && decide ((reprText x).length ≤ 1000000)) = true
    rw [decide_eq_true sz']
    rfl
  | rat z =>
    have sh' : (decide (z.num.natAbs.log2 < 1900) && decide (z.den.log2 < 1900)) = true := sh
    refine flat ⟨.rat z.num z.den, v, rfl, a, ?_, q0⟩
    show (decide (z.num.natAbs.log2 < 1900) && decide ((z.den : Int).natAbs.log2 < 1900)) = true
    simpa using sh'
  | obj c l => cases sh
  | lst l =>
    have hh := a
    obtain ⟨p, xs, rfl, ha, hl⟩ := a
    obtain rfl : u = Value.ref p := ru
    refine call_repr_slot (by have := hr.un; omega) (lst_ty I ha) PySem.F.slot_list_repr.toG ?_
    have fin : ∀ s' H' u, Inv X pins σ H' s' → Same H H' → callEnd (fun r s1 => ∃ x t, r = Value.str x t ∧ EP X pins σ Q r s1) X.xe (.ok (.ret (.str (listText (txs l)) u))) s' := fun s' H' u I' s2 => ⟨_, _, rfl, .str _, H', I', ⟨_, rfl⟩, q H' s2⟩
    cases l with
    | nil =>
      obtain ⟨_, its, n, rv, el, e⟩ := I.lstM ha
      cases hl
      cases rv
      exact call_list_repr_empty (lst_ty I ha) e rfl (fin _ H _ (I.tok _) (Same.refl _))
    | cons d l =>
      obtain ⟨as, few, hx⟩ := rx_ats T hl sh
      have hlen : xs.length = (txs (d :: l)).length := by
        rw [hl.len]
        clear fin hh ha few hx sh dk sz q flat q0 big hl
        induction (d :: l) with
        | nil => rfl
        | cons d l ih => rw [List.length_cons, ih]; rfl
      have hne : xs ≠ [] := by
        obtain ⟨x, r, rfl, _⟩ := hl
        exact fun z => nomatch z
      have dk' : depxs (d :: l) + 1 ≤ k := dk
      exact wpAny_call (codeAny_call_builtin PySem.F.slot_list_repr.plain PySem.F.entry_list_repr (PySem.F.slot_list_repr.check _ _ _ _ _ _ _ _ (lst_ty I ha) (PySem.F.args_list_repr_1 _)
        (rx_listAt (A := X.A.in1) (d := depxs (d :: l)) (b := 0) (R := callEnd _ _) hg (fun c _ => Clear.nil c) ((Fu.RoomH.in1 hr).mono (by omega)) I.ok.frames (few.not hh (Nat.lt_succ_self _)) (Same.refl _) I ha hne hlen (fun i v u hv ru => by
          obtain ⟨us, h1, h2⟩ := vals_with ru hv
          exact (hx us h1).item i u h2) (by rw [Nat.zero_add]; exact big) fin fun e s' z => z)))
  | tup l =>
    have hh := a
    obtain ⟨p, xs, rfl, ha, hl⟩ := a
    obtain rfl : u = Value.ref p := ru
    refine call_repr_slot (by have := hr.un; omega) (tup_ty I ha) PySem.F.slot_tuple_repr ?_
    obtain ⟨as, few, hx⟩ := rx_ats T hl sh
    have dk' : depxs l + 1 ≤ k := dk
    exact wpAny_call (codeAny_call_builtin_own (Code.quiet_builtin _ (by decide +kernel)) PySem.F.entry_tuple_repr (PySem.F.slot_tuple_repr.check _ _ _ _ _ _ _ _ (tup_ty I ha) (PySem.F.args_tuple_repr_1 _)
      (rx_tupAt (A := X.A.in1) (d := depxs l) (b := 0) (R := callEnd _ _) (wt_tup _) (isGuard_tuple_repr _) (units_under_tuple_repr _ _) hg (fun c _ => Clear.nil c) ((Fu.RoomH.in1 hr).mono (by omega)) I.ok.frames (few.not hh (Nat.lt_succ_self _)) (Same.refl _) I ha hx (by rw [Nat.zero_add]; exact big) (fun s' H' u I' s2 => ⟨_, _, rfl, .str _, H', I', ⟨_, rfl⟩, q H' s2⟩) fun e s' z => z)))
  | dic ks l =>
    obtain ⟨as', few', hx'⟩ := rx_at T a sh
    have hh := a
    obtain ⟨p, kvs, rfl, ha, hk, hl⟩ := a
    obtain rfl : u = Value.ref p := ru
    have hs' : (shxs l && ks.all kOk) = true := sh
    rw [Bool.and_eq_true] at hs'
    refine call_repr_slot (by have := hr.un; omega) (dic_ty I ha) PySem.F.slot_dict_repr ?_
    obtain ⟨as, few, hx⟩ := rx_ats T (Ats.less hh (Nat.le_add_left 1 _) (Nat.lt_succ_self _) hs'.1 hl) hs'.1
    have few' : Few Γ H (depxs l) as := fun c hc => by
      obtain ⟨d', h1, h2⟩ := few c hc
      exact ⟨d', h1, h2.ex (less_same _ _)⟩
    have dk' : depxs l + 1 ≤ k := dk
    have ent : ∀ vs es, KV kvs vs → Pairs (mixKind X.prog X.w) es vs → RXe X as (less H p) (depxs l) es ((ks.zip (txs l)).map fun z => kTxt z.1 ++ ": " ++ z.2) := fun vs es kv ps => by
      have q := rx_entries (X := X) (as := as) (H0 := less H p) (d := depxs l) (ks := kvs) (ts := txs l) (by
        have := hs'.2
        rw [← hk, List.all_map] at this
        exact this) hx kv ps
      have e : (kvs.zip (txs l)).map (fun z => kTxt z.1.1 ++ ": " ++ z.2) = (ks.zip (txs l)).map fun z => kTxt z.1 ++ ": " ++ z.2 := by
        rw [← hk, List.zip_map_left, List.map_map]
        rfl
      rw [e] at q
      exact q
    exact wpAny_call (codeAny_call_builtin_own (Code.quiet_builtin _ (by decide +kernel)) PySem.F.entry_dict_repr (PySem.F.slot_dict_repr.check _ _ _ _ _ _ _ _ (dic_ty I ha) (PySem.F.args_dict_repr_1 _)
      (rx_dicAt (A := X.A.in1) (d := depxs l) (b := 0) (R := callEnd _ _) (wt_dic _) (isGuard_dict_repr _) (units_under_dict_repr _ _) hg (fun c _ => Clear.nil c) ((Fu.RoomH.in1 hr).mono (by omega)) I.ok.frames (few'.not hh (Nat.lt_succ_self _)) (Same.refl _) I ha ent (by rw [Nat.zero_add]; exact big) (fun s' H' u I' s2 => ⟨_, _, rfl, .str _, H', I', ⟨_, rfl⟩, q H' s2⟩) fun e s' z => z)))
end
end Mi

/-! len(set(texts)), any number of texts. -/
namespace Fu
open PySem PyProof.Rows
def stepS (l : List Str) (v : Str) : List Str := if l.any (· == v) = true then l else l ++ [v]
/-- the first i texts, each once -/
def metS (xs : List Str) (i : Nat) : List Str := (xs.take i).foldl stepS []
theorem metS_succ {xs : List Str} {i : Nat} (h : i < xs.length) : metS xs (i + 1) = stepS (metS xs i) (xs.getD i Str.empty) := by
  unfold metS
  have e : xs.getD i Str.empty = xs[i] := by simp [List.getD, h]
  rw [e, List.take_succ_eq_append_getElem h, List.foldl_append]
  rfl
theorem stepS_any (l : List Str) (v k : Str) : (stepS l v).any (· == k) = (l.any (· == k) || decide (k = v)) := by
  unfold stepS
  by_cases h : l.any (· == v) = true
  · rw [if_pos h]
    by_cases e : k = v
    · subst e
      rw [h]
      simp
    · simp [e]
  · rw [if_neg h, List.any_append]
    congr 1
    by_cases e : k = v
    · subst e
      simp
    · have : (v == k) = false := beq_eq_false_iff_ne.mpr fun z => e z.symm
      simp [this, e]
theorem stepS_len (l : List Str) (v : Str) : (stepS l v).length = if l.any (· == v) = true then l.length else l.length + 1 := by
  unfold stepS
  split <;> simp
theorem metS_le (xs : List Str) : ∀ i, (metS xs i).length ≤ i
  | 0 => by simp [metS]
  | i + 1 => by
    by_cases h : i < xs.length
    · rw [metS_succ h, stepS_len]
      have := metS_le xs i
      split <;> omega
    · have e : metS xs (i + 1) = metS xs i := by
        unfold metS
        rw [List.take_of_length_le (by omega), List.take_of_length_le (by omega)]
      rw [e]
      have := metS_le xs i
      omega
section
variable {prog : Program} {w : World} {A : Around} {R : Result → Shared → Prop} {I : Addr} {fp wr : List Addr} {G : Array GenState → Array GenState → Prop} {n : Nat} {P : Nat → Value → Prop} {St : Nat → Shared → Prop}
theorem loopStrG (W : WalksS prog w A.in1 I fp wr G n P St) (S : Addr) (hSf : S ∉ fp) (xs : List Str) (hsz : xs.length = n) (hn1 : n + 1 < scanBound)
    (hval : ∀ i v, P i v → ∃ t, v = .str (xs.getD i Str.empty) t) :
    ∀ (k i : Nat) (s : Shared), n - i = k → i ≤ n → St i s →
      s.heap.SetOf (PySem.strKind prog w) S (fun k' => (metS xs i).any (· == k')) (metS xs i).length →
      (∀ s', Moved (S :: wr) G s s' → s'.heap.SetOf (PySem.strKind prog w) S (fun k' => (metS xs n).any (· == k')) (metS xs n).length → R (.ok (.ret .none)) s') →
      codeAny (model prog w) A (.builtin "set.update.loop" ⟨[.ref S, .ref I], []⟩) R s := by
  have hSw : S ∉ wr := fun h => hSf (W.sub _ h)
  have hsub : ∀ b ∈ wr, b ∈ S :: wr := fun b hb => List.mem_cons_of_mem _ hb
  intro k
  induction k with
  | zero =>
    intro i s hk hi hst hS hR
    have hin : i = n := by omega
    subst hin
    refine codeAny_builtin PyProof.Rows.F.entry_set_update_loop ?_
    rw [Around.under_plainId PyProof.Rows.F.plain_set_update_loop _]
    show wpAny _ A.in1 (pyNext (.ref I) >>= _) _ _ s
    refine wpAny_bind (W.done s _ _ hst fun s' hm => ?_)
    show wpAny _ A.in1 (ret Value.none) _ _ s'
    exact wpAny_pure (hR s' (hm.mono hsub) (by
      obtain ⟨o, es, ep, t, ho, rest⟩ := hS
      exact ⟨o, es, ep, t, hm.heap S _ hSw ho, rest⟩))
  | succ k ih =>
    intro i s hk hi hst hS hR
    have hlt : i < n := by omega
    refine codeAny_builtin PyProof.Rows.F.entry_set_update_loop ?_
    rw [Around.under_plainId PyProof.Rows.F.plain_set_update_loop _]
    show wpAny _ A.in1 (pyNext (.ref I) >>= _) _ _ s
    refine wpAny_bind (W.item i s _ _ hlt hst fun v s' hP hst' hm => ?_)
    obtain ⟨t, rfl⟩ := hval i v hP
    have hS' : s'.heap.SetOf (PySem.strKind prog w) S (fun k' => (metS xs i).any (· == k')) (metS xs i).length := by
      obtain ⟨o, es, ep, tb, ho, rest⟩ := hS
      exact ⟨o, es, ep, tb, hm.heap S _ hSw ho, rest⟩
    show wpAny _ A.in1 (holding [Value.str (xs.getD i Str.empty) t] (setAdd S (.str (xs.getD i Str.empty) t)) >>= _) _ _ s'
    refine wpAny_bind (wpAny_holding ?_)
    unfold setAdd
    refine wpAny_holding ?_
    refine wpAny_bind ((PySem.strKind prog w).pyHash (k := xs.getD i Str.empty) (strKind_is _ _ _ _) ?_)
    have hroom : (metS xs i).length + 1 < scanBound := by have := metS_le xs i; omega
    refine wpAny_setAddHashed_of (knd := PySem.strKind prog w) (s := { s' with toks := s'.toks + 1 }) (strKind_is _ _ _ _) rfl hS' hroom fun h' hsb hS2 => ?_
    have hSi : h'.SetOf (PySem.strKind prog w) S (fun k' => (metS xs (i + 1)).any (· == k')) (metS xs (i + 1)).length :=
      SetOf_congr hS2 (fun k' => by rw [metS_succ (by omega), stepS_any]) (by rw [metS_succ (by omega), stepS_len])
    refine wpAny_pure ⟨plainId_quiet PyProof.Rows.F.plain_set_update_loop _, ih (i + 1) _ (by omega) hlt (W.frame _ s' _ _ hst' (Nat.le_succ _) fun b hb o e => ?_) hSi fun s'' hm'' hS'' => ?_⟩
    · rw [hsb.2 b (fun h : b = S => hSf (by rw [← h]; exact hb))]; exact e
    · refine hR s'' (Moved.trans W.gtrans ((hm.mono hsub).then_heap (Nat.le_succ _) fun b o hb e => ?_) hm'') hS''
      rw [hsb.2 b (fun h : b = S => hb (by rw [h]; exact List.mem_cons_self))]; exact e
end
section
variable {prog : Program} {w : World} {A : Around} {E : Value → Shared → Prop} {s : Shared}
theorem call_set_listG {l : Addr} {items : Array Value} {xs : List Str} {Q : Value → Shared → Prop}
    (hh : A.handled = none) (hl : s.heap.IsList l items) (hi : PyProof.Rows.StrsAre items.toList xs) (hn1 : xs.length + 1 < scanBound)
    (h : ∀ (h' : Heap) (tk : Nat), h'.SetOf (PySem.strKind prog w) s.heap.objs.size (fun k' => (metS xs items.size).any (· == k')) (metS xs items.size).length →
      (∀ b o, b < s.heap.objs.size → s.heap.get? b = some o → h'.get? b = some o) → Q (.ref s.heap.objs.size) { s with heap := h', toks := tk }) :
    wpAny (model prog w) A (call (.type "set") [.ref l]) Q E s := by
  obtain ⟨c, tl, hmro⟩ := PySem.F.called_set.mro
  have hmade := PySem.F.called_set.made
  have hsub := PySem.F.called_set.sub
  refine wpAny_call (codeAny_of_tree ?_)
  show wpAny _ _ (callAny (.type "set") _) _ _ _
  refine wpAny_pure ⟨Code.quiet_builtin _ (by decide +kernel), codeAny_builtin PySem.F.entry_type_call ?_⟩
  rw [Around.under_plain (weight_type_call_type "set" [.ref l] []) rfl]
  have h1 := PySem.F.called_set.notType
  have h2 := PySem.F.called_set.canCreate
  have hct := PySem.F.typeCall_set_1 (.ref l)
  repeat (any_goals (first | assumption | wp_step))

  refine codeAny_mono (code_set_new_1 (.ref l) (E := E) (Q₁ := fun obj s₁ => ∃ led : Bool, obj = .ref s.heap.objs.size ∧ s₁ = { s with heap := s.heap.push { cls := .type "set", dict := none, data := .set #[] 0 (.fresh 0 0 led) } }) fun led => ⟨led, rfl, rfl⟩) fun r s₁ hr => ?_
  cases r with
  | error e => exact hr
  | ok fl =>
    cases fl with
    | ret obj =>
      obtain ⟨led, rfl, rfl⟩ := hr
      have hS : (s.heap.push { cls := .type "set", dict := none, data := .set #[] 0 (.fresh 0 0 led) }).get? s.heap.objs.size = some { cls := .type "set", dict := none, data := .set #[] 0 (.fresh 0 0 led) } := Heap.get?_push_size _ rfl
      have hT : Shared.TypeIs { s with heap := s.heap.push { cls := .type "set", dict := none, data := .set #[] 0 (.fresh 0 0 led) } } (.ref s.heap.objs.size) "set" := ⟨_, hS, rfl⟩
      have hli := PySem.F.called_set.init.lookup
      have hbi := PySem.F.called_set.init.bind (.ref s.heap.objs.size)
      repeat (any_goals (first | assumption | wp_step))

      refine codeAny_mono (codeAny_call_builtin (R := wants (fun r s₂ => r = .none ∧ ∃ h' tk, s₂ = { s with heap := h', toks := tk } ∧
          h'.SetOf (PySem.strKind prog w) s.heap.objs.size (fun k' => (metS xs items.size).any (· == k')) (metS xs items.size).length ∧
          (∀ b o, b < s.heap.objs.size → s.heap.get? b = some o → h'.get? b = some o)) E) PySem.F.called_set.init.plain PySem.F.entry_set_init (check_set_init_1 hT ?_)) fun r₂ s₂ hr₂ => ?_
      · obtain ⟨ol, hol, hcl, nl, hdl⟩ := hl
        obtain ⟨ocls, odict, odata, oslots⟩ := ol
        simp only at hcl hdl
        subst hcl; subst hdl
        have hol' : (s.heap.push { cls := .type "set", dict := none, data := .set #[] 0 (.fresh 0 0 led) }).get? l = some { cls := .type "list", dict := odict, data := .seq items nl, slots := oslots } := Heap.get?_push_of_some _ hol
        have hsls := PySem.F.sub_list_set
        have hslf := PySem.F.sub_list_frozenset
        have hne : (Value.type "list" == Value.type "dict") = false := by decide
        have hl1 : (s.heap.push { cls := .type "set", dict := none, data := .set #[] 0 (.fresh 0 0 led) }).IsList l items := ⟨_, hol', rfl, nl, rfl⟩
        unfold Builtin.«set.__init__» noKeywords Builtin.Frozenset.updateFrom
        generalize hPI : pyIter = PI
        wp_walk
        subst hPI

        refine wpAny_pyIter_list hl1 ?_
        refine wpAny_bind (wpAny_runValue ?_)
        have hlS : l < s.heap.objs.size := Heap.lt_size hol
        have hh3 : A.in1.in1.in1.handled = none := by simp [hh]
        have hneI : l ≠ (s.heap.push { cls := .type "set", dict := none, data := .set #[] 0 (.fresh 0 0 led) }).objs.size := by
          rw [Heap.size_push]; exact Nat.ne_of_lt (Nat.lt_succ_of_lt hlS)
        have hSf : s.heap.objs.size ∉ [(s.heap.push { cls := .type "set", dict := none, data := .set #[] 0 (.fresh 0 0 led) }).objs.size, l] := by
          rw [Heap.size_push]; simp only [List.mem_cons, List.mem_singleton, List.not_mem_nil, or_false, not_or]
          exact ⟨Nat.ne_of_lt (Nat.lt_succ_self _), Nat.ne_of_gt hlS⟩
        have hsz : xs.length = items.size := by rw [← StrsAre.len_eq hi, Array.length_toList]
        have hval : ∀ (i : Nat) (v : Value), items[i]? = some v → ∃ t, v = .str (xs.getD i Str.empty) t := fun i v hv => SS.strs_at hi i v (by rw [Array.getElem?_toList]; exact hv)
        refine loopStrG ((Walks.list hh3 _ l hneI items).toS) s.heap.objs.size
          hSf xs hsz (by rw [← hsz]; exact hn1) hval (items.size - 0) 0 _ (by omega) (Nat.zero_le _)
          ⟨⟨_, Heap.get?_push_size _ rfl, rfl, rfl⟩, (hl1.push _)⟩ ?hS0 ?hR
        case hS0 =>
          have hget : ((s.heap.push { cls := .type "set", dict := none, data := .set #[] 0 (.fresh 0 0 led) }).push { cls := .type "list_iterator", data := .fields #[.ref l, .int 0 0] }).get? s.heap.objs.size
              = some { cls := .type "set", dict := none, data := .set #[] 0 (.fresh 0 0 led) } := Heap.get?_push_of_some _ hS
          exact PyProof.Rows.SetOf_congr ((PyProof.Rows.setObjOf_fresh (knd := PySem.strKind prog w) led).setOf hget (by unfold scanBound; omega)) (fun _ => rfl) rfl
        case hR =>
          intro s' hm hS'
          obtain ⟨h', g', d', tk', os'⟩ := s'
          have eg : g' = s.gens := hm.gens
          have ed : d' = s.drawn := hm.drawn
          have eo : os' = s.os := hm.os
          subst eg; subst ed; subst eo
          show wpAny _ _ _ _ _ _
          refine wpAny_pure ?_
          show wpAny _ _ (ret Value.none) _ _ _
          refine wpAny_pure ⟨rfl, h', tk', rfl, hS', fun b o hb e => ?_⟩
          have hb1 : b ≠ s.heap.objs.size := Nat.ne_of_lt hb
          have hb2 : b ≠ (s.heap.push { cls := .type "set", dict := none, data := .set #[] 0 (.fresh 0 0 led) }).objs.size := by
            rw [Heap.size_push]; exact Nat.ne_of_lt (Nat.lt_succ_of_lt hb)
          exact hm.heap b o (by simp only [List.mem_cons, List.mem_singleton, List.not_mem_nil, or_false, not_or]; exact ⟨hb1, hb2⟩) (Heap.get?_push_of_some _ (Heap.get?_push_of_some _ e))

      · cases r₂ with
        | error e => exact hr₂
        | ok fl₂ =>
          cases fl₂ with
          | ret r =>
            obtain ⟨rfl, h', tk, rfl, hS', hk'⟩ := hr₂
            repeat (any_goals (first | assumption | wp_step))
            exact h _ _ hS' hk'
          | _ => exact hr₂.elim
    | _ => exact hr.elim
end
end Fu

/-! The mirror layer: len(set(texts)). -/
namespace Fu
open PySem L2
open PyProof.Rows hiding St
def tLenSetG (K : PySem.W.Frag) (ta : TE) : TE := fun σ H Q => ta σ H fun x H1 => ∃ (l : Addr) (xs : List Str), x = .ref l ∧ SqL K H1 l (xs.map V.str) ∧ xs.length ≤ 1000 ∧ Q (.int (metS xs xs.length).length) H1
theorem pe_lenSetG {X : Cx} {a : Expr} {ta : TE} {p p2 q pos : Pos} (hc : X.calm = true) (hg : Gl X "len") (hm : X.mg "len" = none) (hg2 : Gl X "set") (hm2 : X.mg "set" = none) (ha : PE X a ta)
    (na : starEach [a] X.env = (false, eval a X.env) :: starEach [] X.env := by rfl) : PE X (.Call (.Name "len" p) [.Call (.Name "set" p2) [a] [] q] [] pos) (tLenSetG X.K ta) := by
  refine ⟨fun pins s σ H Q I h => ?_⟩
  refine Call_ (ld_blt I hg hm boot_len ?_)
  refine PyProof.Rows.callWith_builtin1 (PyProof.Rows.args_cons ?_ rfl) rfl rfl
  refine Call_ (ld_blt I hg2 hm2 boot_set ?_)
  refine PyProof.Rows.callWith_type1 (PyProof.Rows.args_cons (thn (ha.run pins s σ H _ I h) fun v s1 ⟨x, H1, I1, r1, q1⟩ => PyProof.Rows.args_nil ?_) na) na rfl
  obtain ⟨l, xs, rfl, hq, h1, q1⟩ := q1
  cases r1
  obtain ⟨its, r, pl, hz⟩ := I1.list hq
  have hl : its.toArray.size = xs.length := by rw [List.size_toArray, ← r.length, List.length_map]
  refine call_set_listG (I1.ok.hd hc) pl.isList (by simpa using strsAre_of r) (by unfold scanBound; omega) fun h' tk hS hk => ?_
  rw [hl] at hS
  refine PyProof.Rows.args_nil ?_
  obtain ⟨o, es, ep, t, ho, hex, hd, _, _, _, hf, hn⟩ := hS
  have I2 : Inv X pins σ H1 { s1 with heap := h', toks := tk } := I1.kept fun b o e => hk b o (Heap.lt_size e) e
  have hm' := metS_le xs xs.length
  exact call_len_set ho hex hd hf (by rw [hn]; omega) ⟨.int (metS xs xs.length).length, H1, I2.tok _, ⟨_, by rw [hn]⟩, q1⟩
end Fu
namespace Mi
open PySem L2
open PyProof.Rows hiding St
def strsOf : List D → Option (List Str)
  | [] => some []
  | .str x :: l => (strsOf l).map fun r => x :: r
  | _ :: _ => none
theorem strsOf_at {Γ : Ct} {M : Hp} : ∀ {l : List D} {xs : List V} {r : List Str}, Ats Γ M l xs → strsOf l = some r → xs = r.map V.str
  | [], _, _, h, e => by
    cases e
    exact h
  | d :: l, _, r, h, e => by
    cases d with
    | str x =>
      obtain ⟨r', e', rfl⟩ := Option.map_eq_some_iff.mp (show (strsOf l).map (fun r => x :: r) = some r from e)
      obtain ⟨y, ys, rfl, h1, h2⟩ := h
      rw [strsOf_at h2 e']
      cases h1
      rfl
    | _ => cases e
def sLenSet : D → Option Sl
  | .lst l => (strsOf l).bind fun xs => if xs.length ≤ 1000 then some (.va (.int (Fu.metS xs xs.length).length)) else none
  | _ => none
theorem de_lenSet {X : Cx} {Γ : Ct} {F : Fr} {W : WX} {a : Expr} {fa : Ef} {p p2 q pos : Pos} (hc : X.calm = true) (hm : X.mg "len" = none) (hm2 : X.mg "set" = none) (ha : DE X Γ F W a fa) (hg : Gl X "len" := by rfl) (hg2 : Gl X "set" := by rfl)
    (na : starEach [a] X.env = (false, eval a X.env) :: starEach [] X.env := by rfl) : DE X Γ F W (.Call (.Name "len" p) [.Call (.Name "set" p2) [a] [] q] [] pos) (fU sLenSet fa) := by
  refine PE.mono (Fu.pe_lenSetG hc hg hm hg2 hm2 ha na) (fU_ok (R := fun x H1 Q => ∃ (l : Addr) (xs : List Str), x = .ref l ∧ SqL X.K H1 l (xs.map V.str) ∧ xs.length ≤ 1000 ∧ Q (.int (Fu.metS xs xs.length).length) H1) fun H M x d r Q s h e k => ?_)
  cases d with
  | lst l =>
    obtain ⟨xs, hx, e⟩ := Option.bind_eq_some_iff.mp (show (strsOf l).bind _ = some r from e)
    split at e
    · rename_i hl
      cases e
      obtain ⟨a, ys, rfl, ha, hs⟩ := h
      rw [strsOf_at hs hx] at ha
      exact ⟨a, xs, rfl, SqL.of ha, hl, k _ _ (Post.int s)⟩
    · cases e
  | _ => cases e
end Mi

/-! The heap evaluator: cuts (a state taken up again after draws), the law's own loop, repr, clauses. -/
noncomputable section
namespace He
open PySem L2
open PyProof.Rows hiding St
open Fu (RoomG FnG)
open L2H (RoomH roomH_of)
/-! ### equality of data, cells, states -/
mutual
def eqD : D → D → Bool
  | .non, .non => true
  | .bl a, .bl b => a == b
  | .int a, .int b => decide (a = b)
  | .str a, .str b => decide (a = b)
  | .tup l, .tup m => eqDs l m
  | .rat p, .rat q => decide (p = q)
  | .loc a, .loc b => decide (a = b)
  | .gl a, .gl b => decide (a = b)
  | .scr, .scr => true
  | .kk, .kk => true
  | _, _ => false
def eqDs : List D → List D → Bool
  | [], [] => true
  | a :: l, b :: m => eqD a b && eqDs l m
  | _, _ => false
end
mutual
theorem eqD_eq : ∀ {a b : D}, eqD a b = true → a = b
  | .non, b, h => by cases b <;> first | rfl | cases h
  | .bl a, b, h => by cases b <;> first | (rw [eq_of_beq h]) | cases h
  | .int a, b, h => by cases b <;> first | (rw [of_decide_eq_true h]) | cases h
  | .str a, b, h => by cases b <;> first | (rw [of_decide_eq_true h]) | cases h
  | .rat a, b, h => by cases b <;> first | (rw [of_decide_eq_true h]) | cases h
  | .loc a, b, h => by cases b <;> first | (rw [of_decide_eq_true h]) | cases h
  | .gl a, b, h => by cases b <;> first | (rw [of_decide_eq_true h]) | cases h
  | .scr, b, h => by cases b <;> first | rfl | cases h
  | .kk, b, h => by cases b <;> first | rfl | cases h
  | .exc, b, h => by cases b <;> cases h
  | .tup l, b, h => by
    cases b with
    | tup m => rw [eqDs_eq (show eqDs l m = true from h)]
    | _ => cases h
theorem eqDs_eq : ∀ {l m : List D}, eqDs l m = true → l = m
  | [], m, h => by cases m <;> first | rfl | cases h
  | a :: l, m, h => by
    cases m with
    | nil => cases h
    | cons b m =>
      have h' : (eqD a b && eqDs l m) = true := h
      rw [Bool.and_eq_true] at h'
      rw [eqD_eq h'.1, eqDs_eq h'.2]
end
def eqC : C → C → Bool
  | .lst l, .lst m => eqDs l m
  | .dic k ks l, .dic k' ks' l' => k == k' && decide (ks = ks') && eqDs l l'
  | .dct k ks l, .dct k' ks' l' => k == k' && decide (ks = ks') && eqDs l l'
  | .ins c l, .ins c' l' => decide (c = c') && eqDs l l'
  | .pl, .pl => true
  | _, _ => false
theorem eqC_eq : ∀ {a b : C}, eqC a b = true → a = b
  | .lst l, b, h => by
    cases b with
    | lst m => rw [eqDs_eq (show eqDs l m = true from h)]
    | _ => cases h
  | .dic k ks l, b, h => by
    cases b with
    | dic k' ks' l' =>
      have h' : (k == k' && decide (ks = ks') && eqDs l l') = true := h
      rw [Bool.and_eq_true, Bool.and_eq_true] at h'
      rw [eq_of_beq h'.1.1, of_decide_eq_true h'.1.2, eqDs_eq h'.2]
    | _ => cases h
  | .dct k ks l, b, h => by
    cases b with
    | dct k' ks' l' =>
      have h' : (k == k' && decide (ks = ks') && eqDs l l') = true := h
      rw [Bool.and_eq_true, Bool.and_eq_true] at h'
      rw [eq_of_beq h'.1.1, of_decide_eq_true h'.1.2, eqDs_eq h'.2]
    | _ => cases h
  | .ins c l, b, h => by
    cases b with
    | ins c' l' =>
      have h' : (decide (c = c') && eqDs l l') = true := h
      rw [Bool.and_eq_true] at h'
      rw [of_decide_eq_true h'.1, eqDs_eq h'.2]
    | _ => cases h
  | .pl, b, h => by cases b <;> first | rfl | cases h
def eqO : Option C → Option C → Bool
  | some a, some b => eqC a b
  | none, none => true
  | _, _ => false
theorem eqO_eq {a b : Option C} (h : eqO a b = true) : a = b := by
  cases a <;> cases b <;> first | rfl | cases h | (rw [eqC_eq h])
def eqH (h h1 : Hs) : Nat → Bool
  | 0 => true
  | k + 1 => eqO (h.get k) (h1.get k) && eqH h h1 k
theorem eqH_at {h h1 : Hs} : ∀ {k n : Nat}, eqH h h1 k = true → n < k → h.get n = h1.get n
  | 0, _, _, hn => absurd hn (Nat.not_lt_zero _)
  | k + 1, n, e, hn => by
    have e' : (eqO (h.get k) (h1.get k) && eqH h h1 k) = true := e
    rw [Bool.and_eq_true] at e'
    by_cases z : n = k
    · rw [z]; exact eqO_eq e'.1
    · exact eqH_at e'.2 (by omega)
def eqS1 : Option D → Option D → Bool
  | none, _ => true
  | some a, some b => eqD a b
  | _, _ => false
def eqS (is : List Nat) : Nat → Sls → Sls → Bool
  | _, [], [] => true
  | j, a :: S, b :: S1 => (is.contains j || eqS1 a b) && eqS is (j + 1) S S1
  | _, _, _ => false
theorem eqS_at {is : List Nat} : ∀ {j : Nat} {S S1 : Sls}, eqS is j S S1 = true → S.length = S1.length ∧ ∀ (i : Nat) (d : D), i + j ∉ is → S[i]? = some (some d) → S1[i]? = some (some d) ∧ eqD d d = true
  | _, [], [], _ => ⟨rfl, fun i d _ h => by simp at h⟩
  | _, [], _ :: _, h => by cases h
  | _, _ :: _, [], h => by cases h
  | j, a :: S, b :: S1, h => by
    have h' : ((is.contains j || eqS1 a b) && eqS is (j + 1) S S1) = true := h
    rw [Bool.and_eq_true] at h'
    obtain ⟨l, g⟩ := eqS_at h'.2
    refine ⟨by rw [List.length_cons, List.length_cons, l], fun i d hi e => ?_⟩
    cases i with
    | zero =>
      cases e
      have hj : is.contains j = false := by simpa using hi
      rw [hj, Bool.false_or] at h'
      cases b with
      | none => cases h'.1
      | some b =>
        have q : eqD d b = true := h'.1
        have := eqD_eq q
        subst this
        exact ⟨rfl, q⟩
    | succ i => exact g i d (by rw [show i + (j + 1) = i + 1 + j by omega]; exact hi) (by simpa using e)
/-! ### cuts -/
def allN (n : Nat) (f : Nat → Bool) : Bool := Nat.rec (motive := fun _ => Bool) true (fun i acc => acc && f i) n
theorem allN_at {f : Nat → Bool} : ∀ {n i : Nat}, allN n f = true → i < n → f i = true
  | 0, _, _, hi => absurd hi (Nat.not_lt_zero _)
  | n + 1, i, h, hi => by
    have h' : (allN n f && f n) = true := h
    rw [Bool.and_eq_true] at h'
    by_cases z : i = n
    · rw [z]; exact h'.2
    · exact allN_at h'.1 (by omega)
def Rs.fold {α : Type} (p : α → Hs → Bool) (r : Rs α) : Bool := Rs.rec (motive := fun _ => Bool) (fun a h => p a h) (fun _ _ _ => false) false (fun n _ ih => allN n ih) r
def cutOk (is : List Nat) (S : Sls) (h : Hs) (fl : Fl) (h1 : Hs) : Bool := match fl with
  | .nx S1 => eqS is 0 S S1 && eqH h h1 h.nx
  | _ => false
def sCut (is : List Nat) (g : Sf) : Sf := fun S h => match (g S h).fold (cutOk is S h) with
  | true => .ok (.nx (wipeS S is)) h
  | false => .no
section
variable {Γ : Gm} {ω ω' : Wd} {H H' : Hp} {W : WX}
/-- the later world with the cells of the earlier one -/
def Wd.cut (ω ω' : Wd) : Wd := ⟨ω.N, ω'.ι, ω'.M⟩
theorem Wd.cut_ext (e : Ext ω ω') : Ext ω (ω.cut ω') := ⟨Nat.le_refl _, e.i, e.m⟩
mutual
theorem At.back : ∀ {d : D} {v0 v : V}, At Γ ω d v0 → At Γ ω' d v → At Γ (ω.cut ω') d v
  | .non, _, _, _, h => h
  | .bl _, _, _, _, h => h
  | .int _, _, _, _, h => h
  | .str _, _, _, _, h => h
  | .tup l, _, _, h0, h => by
    obtain ⟨a0, xs0, _, _, hs0⟩ := h0
    obtain ⟨a, xs, hv, ha, hs⟩ := h
    exact ⟨a, xs, hv, ha, Ats.back hs0 hs⟩
  | .rat q, _, _, _, h => h
  | .loc n, _, _, h0, h => ⟨h0.1, h.2⟩
  | .gl _, _, _, _, h => h
  | .exc, _, _, _, h => h
  | .scr, _, _, _, h => h
  | .kk, _, _, _, h => h
theorem Ats.back : ∀ {l : List D} {xs0 xs : List V}, Ats Γ ω l xs0 → Ats Γ ω' l xs → Ats Γ (ω.cut ω') l xs
  | [], _, _, _, h => h
  | d :: l, _, _, h0, h => by
    obtain ⟨x0, r0, _, h01, h02⟩ := h0
    obtain ⟨x, r, hx, h1, h2⟩ := h
    exact ⟨x, r, hx, At.back h01 h1, Ats.back h02 h2⟩
end
theorem CAt.back {c : C} {a0 a : Addr} (h0 : CAt Γ ω H c a0) (h : CAt Γ ω' H' c a) : CAt Γ (ω.cut ω') H' c a := by
  cases c with
  | lst l => obtain ⟨_, _, s0⟩ := h0; obtain ⟨xs, ha, hs⟩ := h; exact ⟨xs, ha, s0.back hs⟩
  | dic k ks l => obtain ⟨_, _, _, s0⟩ := h0; obtain ⟨xs, ha, hk, hs⟩ := h; exact ⟨xs, ha, hk, s0.back hs⟩
  | dct k ks l => obtain ⟨_, _, _, s0⟩ := h0; obtain ⟨xs, ha, hk, hs⟩ := h; exact ⟨xs, ha, hk, s0.back hs⟩
  | ins c l => obtain ⟨_, _, _, _, s0⟩ := h0; obtain ⟨dx, fs, ha, hk, hs⟩ := h; exact ⟨dx, fs, ha, hk, s0.back hs⟩
  | pl => exact h
theorem Rp.back {h h1 : Hs} (r0 : Rp Γ ω h H) (r : Rp Γ ω' h1 H') (e : Ext ω ω') (q : eqH h h1 h.nx = true) : Rp Γ (ω.cut ω') h H' := by
  have at_ : ∀ n, n < ω.N → h.get n = h1.get n := fun n hn => eqH_at q (by rw [r0.nx]; exact hn)
  refine ⟨r0.nx, r0.lim, r.sub, fun n hn => ?_, fun n c hn hc lk => ?_, fun n m hn hm z => r.inj n m (Nat.lt_of_lt_of_le hn e.n) (Nat.lt_of_lt_of_le hm e.n) z, Γ.xm _ _ (Wd.cut_ext e) r0.xt⟩
  · obtain ⟨c, hc, h0⟩ := r0.cel n hn
    obtain ⟨c', hc', h2⟩ := r.cel n (Nat.lt_of_lt_of_le hn e.n)
    have e2 : some c = some c' := by rw [← hc, at_ n hn, hc']
    cases e2
    exact ⟨c, hc, h0.back h2⟩
  · exact r.apt n c (Nat.lt_of_lt_of_le hn e.n) (by rw [← at_ n hn]; exact hc) lk
theorem wipe_at : ∀ {is : List Nat} {S : Sls} {i : Nat} {d : D}, (wipeS S is)[i]? = some (some d) → i ∉ is ∧ S[i]? = some (some d)
  | [], _, _, _, h => ⟨by simp, h⟩
  | v :: vs, S, i, d, h => by
    have h' : ((wipeS S vs).set v none)[i]? = some (some d) := h
    by_cases z : v = i
    · subst z
      by_cases l : v < (wipeS S vs).length
      · rw [List.getElem?_set_self l] at h'
        cases h'
      · rw [List.getElem?_eq_none (by rw [List.length_set]; omega)] at h'
        cases h'
    · rw [List.getElem?_set_ne z] at h'
      obtain ⟨h1, h2⟩ := wipe_at h'
      exact ⟨fun q => by rcases List.mem_cons.mp q with q | q
                         · exact z q.symm
                         · exact h1 q, h2⟩
theorem wipe_len : ∀ {is : List Nat} {S : Sls}, (wipeS S is).length = S.length
  | [], _ => rfl
  | v :: vs, S => by
    show ((wipeS S vs).set v none).length = _
    rw [List.length_set]
    exact wipe_len
theorem wipe_keep : ∀ {is : List Nat} {S : Sls} {i : Nat}, i ∉ is → (wipeS S is)[i]? = S[i]?
  | [], _, _, _ => rfl
  | v :: vs, S, i, h => by
    show ((wipeS S vs).set v none)[i]? = _
    rw [List.getElem?_set_ne (fun z => h (by rw [z]; exact .head _))]
    exact wipe_keep fun z => h (.tail _ z)
theorem cut_st {is : List Nat} {S S1 : Sls} {σ0 σ : St} (sl0 : SlAt Γ ω S σ0) (sl : SlAt Γ ω' S1 σ) (q : eqS is 0 S S1 = true) : SlAt Γ (ω.cut ω') (wipeS S is) σ := by
  obtain ⟨l, g⟩ := eqS_at q
  refine ⟨by rw [wipe_len, l]; exact sl.1, fun i d hi => ?_⟩
  obtain ⟨h1, h2⟩ := wipe_at hi
  obtain ⟨h3, h4⟩ := g i d h1 h2
  obtain ⟨v0, _, a0⟩ := sl0.2 i d h2
  obtain ⟨v, hv, a⟩ := sl.2 i d h3
  refine ⟨v, hv, .inl ?_⟩
  rcases a with a | ⟨rfl, _⟩
  · rcases a0 with a0 | ⟨rfl, _⟩
    · exact a0.back a
    · cases h4
  · cases h4
theorem cut_ok {is : List Nat} {S : Sls} {h : Hs} {σ0 : St} {q : Rs Fl} {E : Ends} (sl0 : SlAt Γ ω S σ0) (r0 : Rp Γ ω h H) (hf : q.fold (cutOk is S h) = true) (k : ∀ ω' σ H', Ext ω ω' → SlAt Γ ω' (wipeS S is) σ → Rp Γ ω' h H' → E.nx σ H') : OkR Γ ω WN [] q (fEnds Γ W E) := by
  induction q with
  | no => cases hf
  | er c d h => cases hf
  | all n f ih => exact fun i hi => ih i (allN_at (show allN n _ = true from hf) hi)
  | ok fl h1 =>
    cases fl with
    | nx S1 =>
      have hf' : (eqS is 0 S S1 && eqH h h1 h.nx) = true := hf
      rw [Bool.and_eq_true] at hf'
      intro ω1 H1 e1 r1 σ sl
      exact k _ σ H1 (Wd.cut_ext e1) (cut_st sl0 sl hf'.1) (r0.back r1 e1 hf'.2)
    | _ => cases hf
theorem cut_le {is : List Nat} {g : Sf} {E : Ends} {σ : St} (h : tSt Γ W (sCut is g) E σ H) : tSt Γ W g E σ H := by
  obtain ⟨ω, S, hh, sl, r, k⟩ := h
  refine ⟨ω, S, hh, sl, r, ?_⟩
  unfold sCut at k
  split at k
  · rename_i hf
    exact cut_ok sl r hf fun ω' σ' H' e s2 r2 => k ω' H' e r2 σ' s2
  · exact k.elim
end
section
variable {X : Cx} {Γ : Gm} {W : WX} {ss body : List Stmt} {g g1 g2 g3 gb : Sf} {a e tg : Expr} {es : List Expr} {pos p : Pos} {ga : Af} {x : Str}
theorem jcut (is : List Nat) (h : DSs X Γ W ss g) : DSs X Γ W ss (sCut is g) := Mi.PSs.mono h fun E σ H q => cut_le q
theorem seq_rd {E : Ends} {σ : St} {H : Hp} (h : tSt Γ W (sSeq g1 g2) E σ H) : tSt Γ W g1 { E with nx := fun σ' H' => tSt Γ W g2 E σ' H' } σ H := by
  obtain ⟨ω, S, hh, sl, r, k⟩ := h
  refine ⟨ω, S, hh, sl, r, k.step fun ω1 fl h1 H1 e1 r1 k1 => ?_⟩
  cases fl with
  | nx S1 => exact fun σ1 sl1 => ⟨ω1, S1, h1, sl1, r1, k1⟩
  | rt d => exact k1.here r1
  | bk S1 => exact k1.here r1
  | ct S1 => exact k1.here r1
  | xr c d S1 => exact k1.here r1
/-- some statements -/
inductive SegS (X : Cx) (Γ : Gm) (W : WX) : List Stmt → Sf → Prop
  | one {s : Stmt} {g : Sf} (h : DS X Γ W s g) : SegS X Γ W [s] g
  | cons {s : Stmt} {ss : List Stmt} {g g' : Sf} (h : DS X Γ W s g) (r : SegS X Γ W ss g') : SegS X Γ W (s :: ss) (sSeq g g')
theorem seg_app {rest : List Stmt} {T : TS} (h : SegS X Γ W ss g) (hr : PSs X rest T) : PSs X (ss ++ rest) fun E σ H => tSt Γ W g { E with nx := fun σ' H' => T E σ' H' } σ H := by
  induction h with
  | one h => exact pss_cons h hr
  | cons h r ih => exact Mi.PSs.mono (pss_cons h ih) fun E σ H q => seq_rd (E := { E with nx := fun σ' H' => T E σ' H' }) q
theorem jseg (ss : List Stmt) {rest : List Stmt} (is : List Nat) (h : SegS X Γ W ss g1) (hr : DSs X Γ W rest g2) : DSs X Γ W (ss ++ rest) (sSeq (sCut is g1) g2) := Mi.PSs.mono (seg_app h hr) fun E σ H q => by
  obtain ⟨ω, S, hh, sl, r, k⟩ := q
  have k' : OkR Γ ω WN [] ((sCut is g1 S hh).bind _) (fEnds Γ W E) := k
  unfold sCut at k'
  refine ⟨ω, S, hh, sl, r, ?_⟩
  split at k'
  · rename_i hf
    exact cut_ok (E := { E with nx := fun σ' H' => tSt Γ W g2 E σ' H' }) sl r hf fun ω' σ' H' e s2 r2 => ⟨ω', _, hh, s2, r2, OkR.ex k' e⟩
  · exact k'.elim
/-! ### the law's own loop -/
def sLawF (i : Nat) (is : List Nat) (fr : Af) (gb : Sf) : Sf := fun S h => (fr S h).st S fun ds h1 => match ds with
  | [.kk] => match is.contains i && (gb ((wipeS S is).set i (some .kk)) h1).fold (cutOk is ((wipeS S is).set i (some .kk)) h1) with
    | true => .ok (.nx (wipeS S is)) h1
    | false => .no
  | _ => .no
theorem slAt_sub {ω : Wd} {S S1 : Sls} {σ : St} (h : SlAt Γ ω S1 σ) (l : S.length = S1.length) (m : ∀ (j : Nat) (d : D), S[j]? = some (some d) → S1[j]? = some (some d)) : SlAt Γ ω S σ := ⟨by rw [l]; exact h.1, fun j d e => h.2 j d (m j d e)⟩
theorem jlaw {i : Nat} {is : List Nat} {pt : Pos} (hp : PassesOwn (model X.prog X.w) X.A X.env X.xe) (hc : X.calm = true) (hN : X.N.Nodup) (hm : X.mg "range" = none) (ha : DA X Γ W [a] ga) (hb : DSs X Γ W body gb) (hg : Gl X "range" := by rfl) (hs : starEach [a] X.env = [(false, eval a X.env)] := by rfl)
    (hi : X.N[i]? = some x := by rfl) (hx : Loc X.env.scope x := by first | exact Or.inl rfl | exact Or.inr rfl) (hf : X.fn x = true ∨ X.env.scope.names.lookup x = some .local := by first | exact Or.inl rfl | exact Or.inr rfl) (hfs : ∀ z, foldedSetIterable (.Call (.Name "range" p) [a] [] pos) X.env z = pure z := by intro _; rfl) {pf : Pos} :
    DS X Γ W (.For (.Name x pt) (.Call (.Name "range" p) [a] [] pos) body [] pf) (sLawF i is ga gb) := Mi.PS.mono (ps_for hp hc (pi_range1 hg hm ha hs) (dg_name hN hi hx hf) hb hfs) fun E σ H ⟨ω, S, h, sl, r, k⟩ => ⟨ω, S, h, sl, r, (k.st sl).mono fun ω1 ds h1 H1 e1 r1 k1 vs hvs => by
  split at k1
  · obtain ⟨v, vr, rfl, hd, hvs⟩ := hvs
    obtain rfl := hvs
    obtain ⟨n, hn, rfl⟩ := hd
    split at k1
    · rename_i hf
      rw [Bool.and_eq_true] at hf
      have hin : i ∈ is := by simpa using hf.1
      refine ⟨n, rfl, by omega, by omega, fun j m σ' H' => j ≤ n ∧ m = n - j ∧ ∃ ω', Ext ω1 ω' ∧ SlAt Γ ω' (wipeS S is) σ' ∧ Rp Γ ω' h1 H', ⟨n, Nat.zero_le _, rfl, ω1, Ext.refl _, ?_, r1⟩, ?_⟩
      · exact slAt_sub (sl.ex e1) wipe_len fun j d e => (wipe_at e).2
      · rintro j m σ' H' ⟨hj, rfl, ω2, e2, sl2, r2⟩
        have wk := walk_rng (Γ := Γ) (ω := ω2) (lo := 0) (n := n) ω2 j h1 H' (Ext.refl _) r2
        rcases Nat.lt_or_ge j n with lt | ge
        · obtain ⟨go, yl⟩ := wk.2 (.int (0 + j)) (by show some (if j < n then some (D.int (0 + j)) else none) = _; rw [if_pos lt])
          refine .inr ⟨by simpa using go, fun σ3 H3 => ∃ ω', Ext ω1 ω' ∧ SlAt Γ ω' (wipeS S is) σ3 ∧ Rp Γ ω' h1 H3, fun σ3 H3 ⟨ω3, e3, sl3, r3⟩ => ⟨n - (j + 1), by omega, lt, rfl, ω3, e3, sl3, r3⟩, fun x H3 y => ?_⟩
          obtain ⟨ω3, e3, r3, hat⟩ := yl x H3 (by simpa using y)
          refine ⟨ω3, wipeS S is, h1, .kk, _, sl2.ex e3, r3, ⟨j, by omega, by rw [show x = V.int (0 + j) from hat]; simp⟩, rfl, fun σ4 sl4 _ => ⟨ω3, _, h1, sl4, r3, ?_⟩⟩
          refine cut_ok (is := is) sl4 r3 hf.2 fun ω5 σ5 H5 e5 sl5 r5 => ⟨ω5, e2.trans (e3.trans e5), slAt_sub sl5 (by rw [wipe_len, wipe_len, List.length_set, wipe_len]) fun q d e => ?_, r5⟩
          obtain ⟨q1, q2⟩ := wipe_at e
          rw [wipe_keep q1, List.getElem?_set_ne (fun z => q1 (by rw [← z]; exact hin))]
          exact e
        · have := wk.1 (by show some (if j < n then some (D.int (0 + j)) else none) = _; rw [if_neg (by omega)])
          exact .inl ⟨by simpa using this, k1.ex e2 |>.here r2 σ' sl2⟩
    · exact k1.elim
  · exact k1.elim⟩
/-! ### the length of the script -/
def snLenK : Sn := snor snLen fun ds h => match ds with
  | [.scr] => .ok .kk h
  | _ => .no
theorem ca_lenK (hK : Γ.ct.K = X.K) : CaH X Γ (.builtin "len") snLenK := ca_len.or ⟨_, call_len, fun ω h H vs ds Q r hx k => by
  dsimp only at k
  split at k
  · obtain ⟨v, vr, rfl, hd, hx⟩ := hx
    obtain rfl := hx
    obtain ⟨a, ns, rfl, hl, hs⟩ := hd
    refine ⟨_, _, rfl, .inl ⟨_, by rw [← hK]; exact r.sub.seq hs, rfl⟩, k.here r _ ⟨ns.length, hl, ?_⟩⟩
    rw [List.length_map]
  · exact k.elim⟩
def snMinK : Sn := fun ds h => match ds with
  | [.kk, .int n] => if 0 ≤ n then .ok .kk h else .no
  | _ => .no
def snMaxK : Sn := fun ds h => match ds with
  | [.int n, .kk] => if n ≤ 63 then .ok .kk h else .no
  | _ => .no
theorem ca_minK (hc : X.calm = true) : CaH X Γ (.builtin "min") snMinK := ⟨_, call_min2 hc, fun ω h H vs ds Q r hx k => by
  unfold snMinK at k
  split at k
  · split at k
    · rename_i n hn
      obtain ⟨v, vr, rfl, hd, v2, vr2, rfl, hd2, hx⟩ := hx
      obtain rfl := hx
      obtain ⟨j, hj, rfl⟩ := hd
      obtain rfl := hd2
      refine ⟨_, _, rfl, k.here r _ ?_⟩
      by_cases z : (j : Int) ≤ n
      · exact ⟨j, hj, by congr 1; omega⟩
      · exact ⟨n.toNat, by omega, by congr 1; omega⟩
    · exact k.elim
  · exact k.elim⟩
theorem ca_maxK (hc : X.calm = true) : CaH X Γ (.builtin "max") snMaxK := ⟨_, call_max2 hc, fun ω h H vs ds Q r hx k => by
  unfold snMaxK at k
  split at k
  · split at k
    · rename_i n hn
      obtain ⟨v, vr, rfl, hd, v2, vr2, rfl, hd2, hx⟩ := hx
      obtain rfl := hx
      obtain rfl := hd
      obtain ⟨j, hj, rfl⟩ := hd2
      refine ⟨_, _, rfl, k.here r _ ?_⟩
      by_cases z : n ≤ (j : Int)
      · exact ⟨j, hj, by congr 1; omega⟩
      · exact ⟨n.toNat, by omega, by congr 1; omega⟩
    · exact k.elim
  · exact k.elim⟩
/-! ### repr -/
structure Pr (P : Program) (w : World) (K : PySem.W.Frag) (mg : Str → Option Value) (base : Heap) (Γ : Gm) : Prop where
  ex : ∃ (f : Addr) (fd : FuncData), Fu.ReprC P w K mg base Γ.ct.R f fd (Fu.spRepr Γ.ct.R)
theorem Pr.sui {P : Program} {w : World} {K : PySem.W.Frag} {mg : Str → Option Value} {base : Heap} {a : Addr} {c : Nat} {d : Option D} {dd : Option Addr} (h : Pr P w K mg base Γ) : Pr P w K mg base (Γ.sui a c d dd) := ⟨h.ex⟩
def bRepr : Sn := fun ds h => match ds with
  | [d] => match rei h 2000 d with
    | some m => if (Mi.shx m && decide (Mi.depx m ≤ 8) && decide ((Mi.tx m).length ≤ 1000000)) = true then .ok (.str (Mi.tx m)) h else .no
    | none => .no
  | _ => .no
theorem ca_repr (T : Pr X.prog X.w X.K X.mg X.base Γ) (hg : X.A.guards = some []) (hr : RoomH 13 X.A) : CaH X Γ (.builtin "repr") bRepr := by
  obtain ⟨f, fd, T⟩ := T.ex
  refine ⟨Mi.rReprX Γ.ct 8, Mi.call_reprX T hg hr, fun ω h H vs ds Q r hx k => ?_⟩
  unfold bRepr at k
  split at k
  · rename_i d
    obtain ⟨v, vr, rfl, hd, hx⟩ := hx
    obtain rfl := hx
    split at k
    · rename_i m hm
      split at k
      · rename_i ok
        rw [Bool.and_eq_true, Bool.and_eq_true, decide_eq_true_eq, decide_eq_true_eq] at ok
        exact ⟨m, v, rfl, rei_at r hm hd, ok.1.1, ok.1.2, ok.2, fun H' s => k ω H' (Ext.refl ω) (r.same s) _ rfl⟩
      · exact k.elim
    · exact k.elim
  · exact k.elim
variable {g : Af}
theorem jrepr (T : Pr X.prog X.w X.K X.mg X.base Γ) (hg0 : X.A.guards = some []) (hr : RoomH 13 X.A) (hm : X.mg "repr" = none) (ha : DA X Γ W (e :: es) g) (hg : Gl X "repr" := by rfl) (he : starEach (e :: es) X.env = (false, eval e X.env) :: starEach es X.env := by rfl) (hpl : (backTo pos (starEach es X.env)).any (·.1) = false := by rfl) : DE X Γ W (.Call (.Name "repr" p) (e :: es) [] pos) (fBi bRepr g) := de_b (ca_repr T hg0 hr) hg hm (by decide +kernel) ha (by decide) (by decide) he hpl
theorem roomH {n m : Nat} {A : Around} (h : RoomG n A) (l : m ≤ n) : RoomH m A := (roomH_of h.r).mono l
/-! ### clauses -/
def suOne (ci : Nat) (b : Option D → Sf) : Nat → Option D → Sf := fun c d => match decide (c = ci) with
  | true => b d
  | false => sBad
def mtOne (ci : Nat) : Nat → Bool := fun c => decide (c = ci)
theorem su_one {ci nE : Nat} {suite : List Stmt} {b : Option D → Sf} (h : ∀ (a : Addr) (oe : Obj) (d : Option D) (dd : Option Addr) (pn : List (Addr × Obj)), Zc (.ref (Γ.ct.err ci)) dd oe → (∃ vs, oe.data = .fields vs) → DSs (X.suite a ((a, oe) :: pn)) (Γ.sui a ci d dd) WN suite (b d)) :
    ∀ (a : Addr) (oe : Obj) (c : Nat) (d : Option D) (dd : Option Addr) (pn : List (Addr × Obj)), c < nE → Zc (.ref (Γ.ct.err c)) dd oe → (∃ vs, oe.data = .fields vs) → DSs (X.suite a ((a, oe) :: pn)) (Γ.sui a c d dd) WN suite (suOne ci b c d) := by
  intro a oe c d dd pn hc hz hf
  unfold suOne
  by_cases z : c = ci
  · subst z
    rw [decide_eq_true rfl]
    exact h a oe d dd pn hz hf
  · rw [decide_eq_false z]
    exact ⟨fun pins s σ H D I ⟨ω, S, h, sl, r, k⟩ => k.elim⟩
/-- an error as it is caught, read, asked -/
structure Xn (K : PySem.W.Frag) (mg : Str → Option Value) (Γ : Gm) (nE c : Nat) (x f : Str) : Prop where
  nm : mg x = some (.ref (Γ.ct.err c))
  mt : ∀ c', c' < nE → PySem.W.exmOne K (.ref (Γ.ct.err c')) (.ref (Γ.ct.err c)) = some (mtOne c c')
  lt : c < nE
  xf : XfC K (Γ.ct.err c)
  xc : ExcC K (Γ.ct.err c)
  no : PySem.W.findIn K (.ref (Γ.ct.err c)) f = some none
  ef : Γ.ct.erf c = some f
theorem jxf {i c : Nat} {f : Str} {a : Addr} {oe : Obj} {d : Option D} {dd : Option Addr} {pn : List (Addr × Obj)} {nE : Nat} (T : Xn X.K X.mg Γ nE c x f) (hz : Zc (.ref (Γ.ct.err c)) dd oe) (hf : ∃ vs, oe.data = .fields vs) (he : PE (X.suite a ((a, oe) :: pn)) e (tVar i)) (hb : attributeBase e f X.env (eval e X.env) = eval e X.env := by rfl) :
    DE (X.suite a ((a, oe) :: pn)) (Γ.sui a c d dd) W (.Attribute e f pos) (fXf i d) := de_xf T.xf T.no T.ef hz hf he hb
theorem jxi {i c : Nat} {f : Str} {a : Addr} {oe : Obj} {d : Option D} {dd : Option Addr} {pn : List (Addr × Obj)} {nE : Nat} {b : Bool} {cv : V} {u : Value} {e2 : Expr} (T : Xn X.K X.mg Γ nE c x f) (hk : PySem.W.kitOne X.K (.ref (Γ.ct.err c)) u = some b) (hcv : ClsV cv u) (hz : Zc (.ref (Γ.ct.err c)) dd oe) (hf : ∃ vs, oe.data = .fields vs) (hm : X.mg "isinstance" = none)
    (he : PE (X.suite a ((a, oe) :: pn)) e (tVar i)) (hc : PE (X.suite a ((a, oe) :: pn)) e2 (tC cv)) (hg : Gl X "isinstance" := by rfl) (hs : starEach [e, e2] X.env = (false, eval e X.env) :: starEach [e2] X.env := by rfl) (hs2 : starEach [e2] X.env = (false, eval e2 X.env) :: starEach [] X.env := by rfl) (hpl : (backTo pos (starEach [e2] X.env)).any (·.1) = false := by rfl) :
    DE (X.suite a ((a, oe) :: pn)) (Γ.sui a c d dd) W (.Call (.Name "isinstance" p) [e, e2] [] pos) (fXi i b) := de_xi T.xc hk hcv hz hf hm hg he hc (by rw [T.ef]; exact fun z => nomatch z) hs hs2 hpl
theorem jcl {nE c : Nat} {n f : Str} {b₀ : Stmt} {suite : List Stmt} {np pos' : Pos} {hds : List ExceptHandler} {qs : List Clx} {l : List (Value × (Addr → Value → Option Addr → TS))} {b : Option D → Sf} (T : Xn X.K X.mg Γ nE c x f)
    (h : ∀ (a : Addr) (oe : Obj) (d : Option D) (dd : Option Addr) (pn : List (Addr × Obj)), Zc (.ref (Γ.ct.err c)) dd oe → (∃ vs, oe.data = .fields vs) → DSs (X.suite a ((a, oe) :: pn)) (Γ.sui a c d dd) WN (b₀ :: suite) (b d)) (r : Cls1 X Γ nE n hds qs l) (hg : Gl X x := by rfl) (hdb : (x == ("__debug__" : Str)) = false := by decide) :
    Cls1 X Γ nE n (.ExceptHandler (some (.Name x np)) (some n) (b₀ :: suite) pos' :: hds) (⟨mtOne c, suOne c b⟩ :: qs) ((.ref (Γ.ct.err c), fun a cls dd E σ H => ∃ c' d, c' < nE ∧ cls = .ref (Γ.ct.err c') ∧ tSt (Γ.sui a c' d dd) WN (suOne c b c' d) E σ H) :: l) :=
  .cons (q := ⟨mtOne c, suOne c b⟩) ⟨hg, hdb, .inl T.nm⟩ T.mt (fun c' hc' => decide_eq_false (fun z => by have := T.lt; omega)) (su_one h) r
/-! ### len(set(xs)) of texts -/
def strsD : List D → Option (List Str)
  | [] => some []
  | .str x :: l => (strsD l).map fun r => x :: r
  | _ :: _ => none
theorem strsD_at {ω : Wd} : ∀ {l : List D} {xs : List V} {r : List Str}, Ats Γ ω l xs → strsD l = some r → xs = r.map V.str
  | [], _, r, h, e => by
    cases e
    exact h
  | d :: l, _, r, h, e => by
    cases d with
    | str x =>
      obtain ⟨r', e', rfl⟩ := Option.map_eq_some_iff.mp (show (strsD l).map (fun r => x :: r) = some r from e)
      obtain ⟨y, ys, rfl, h1, h2⟩ := h
      rw [strsD_at h2 e']
      cases h1
      rfl
    | _ => cases e
def s1LenSet : S1 := fun d h => match d with
  | .loc n => match lstAt h n with
    | some l => match strsD l with
      | some xs => if xs.length ≤ 1000 then .ok (.int (Fu.metS xs xs.length).length) h else .no
      | none => .no
    | none => .no
  | _ => .no
def fLenSet (fa : Ef) : Ef := fU (pS1 s1LenSet) fa
theorem jlenset {fa : Ef} {p2 q : Pos} (hm : X.mg "len" = none) (hm2 : X.mg "set" = none) (hc : X.calm = true) (ha : DE X Γ W a fa) (hg : Gl X "len" := by rfl) (hg2 : Gl X "set" := by rfl) (na : starEach [a] X.env = (false, eval a X.env) :: starEach [] X.env := by rfl) :
    DE X Γ W (.Call (.Name "len" p) [.Call (.Name "set" p2) [a] [] q] [] pos) (fLenSet fa) := by
  refine Mi.PE.mono (Fu.pe_lenSetG hc hg hm hg2 hm2 ha na) (fU_ok (R := fun x H1 Q => ∃ (l : Addr) (xs : List Str), x = .ref l ∧ SqL X.K H1 l (xs.map V.str) ∧ xs.length ≤ 1000 ∧ Q (.int (Fu.metS xs xs.length).length) H1) fun ω h H x d Q r hx k => ?_)
  unfold s1LenSet at k
  split at k
  · split at k
    · rename_i n l hl
      split at k
      · rename_i xs hxs
        split at k
        · rename_i hlen
          obtain ⟨hn, rfl⟩ := hx
          obtain ⟨ys, hy, hs⟩ := lstAt_at r hn hl
          rw [strsD_at hs hxs] at hy
          exact ⟨_, xs, rfl, SqL.of hy, hlen, k.here r _ rfl⟩
        · exact k.elim
      · exact k.elim
    · exact k.elim
  · exact k.elim
/-! ### a def that is never reached -/
def vBad : Gf := fun _ _ => .no
theorem fn_bad {P : Program} {w : World} {K : PySem.W.Frag} {mg : Str → Option Value} {base : Heap} {k : Nat} {f : Addr} {fd : FuncData} {ps : List Str} : FnG P w K mg base (L2.CX P w) k f fd ps (spH Γ vBad) :=
  ⟨fun vs H Q E ⟨ω, h, ds, r, hs, q⟩ => q.elim, fun A outer s H args us vs Q E hr e0 hb r ⟨ω, h, ds, r', hs, q⟩ => q.elim⟩
end
end He
end

/-! printed by hev.py -/
noncomputable section
namespace He
open PySem L2 Fu
open PyProof.Rows hiding St
/-- what stands in the written part -/
structure Tk (P : Program) (w : World) (K : PySem.W.Frag) (mg : Str → Option Value) (base : Heap) (Γ : Gm) : Prop where
  hK : Γ.ct.K = K
  xa : Γ.xa = none
  rp : Pr P w K mg base Γ
  R : Rn P w K mg base Γ 1
  rcl : Cls K Γ.ct.R
  na_own_top : NoAttr K Γ.ct.R "own_top"
  na_own_bottom : NoAttr K Γ.ct.R "own_bottom"
  ty : Mi.TyF Γ.ct K 2
  i_int : Mi.IsF Γ.ct K 2 (.type "int") tInt
  i_bool : Mi.IsF Γ.ct K 2 (.type "bool") tBool
  i_str : Mi.IsF Γ.ct K 2 (.type "str") tStr
  i_list : Mi.IsF Γ.ct K 2 (.type "list") tList
  i_tuple : Mi.IsF Γ.ct K 2 (.type "tuple") tTup
  i_dict : Mi.IsF Γ.ct K 2 (.type "dict") tDict
  i_Ratio : Mi.IsF Γ.ct K 2 (.ref Γ.ct.R) tRat
  b_len : mg "len" = none
  b_list : mg "list" = none
  b_all : mg "all" = none
  b_bool : mg "bool" = none
  b_int : mg "int" = none
  b_abs : mg "abs" = none
  b_repr : mg "repr" = none
  b_isinstance : mg "isinstance" = none
  b_range : mg "range" = none
  b_enumerate : mg "enumerate" = none
  b_set : mg "set" = none
  b_str : mg "str" = none
  b_tuple : mg "tuple" = none
  b_dict : mg "dict" = none
  b_max : mg "max" = none
  b_min : mg "min" = none
  b_any : mg "any" = none
  b_sum : mg "sum" = none
  b_zip : mg "zip" = none
  b_ValueError : mg "ValueError" = none
  x_InvalidNet : Xn K mg Γ 5 2 "InvalidNet" "part"
  x_InvalidPoint : Xn K mg Γ 5 3 "InvalidPoint" "value"
  k_InvalidNet_ValueError : PySem.W.kitOne K (.ref (Γ.ct.err 2)) (.type "ValueError") = some true
  k_InvalidPoint_ValueError : PySem.W.kitOne K (.ref (Γ.ct.err 3)) (.type "ValueError") = some true
  c_LETTERS : ∃ u, mg "LETTERS" = some u ∧ RelV (.str ⟨#[97, 98, 99, 100, 101, 102, 103, 104, 105, 106, 107, 108, 109, 110, 111, 112, 113, 114, 115, 116, 117, 118, 119, 120, 121, 122]⟩) u
  c_MOST_LETTERS : ∃ u, mg "MOST_LETTERS" = some u ∧ RelV (.int 8) u
  c_MOST_NODES : ∃ u, mg "MOST_NODES" = some u ∧ RelV (.int 30) u
  c_MOST_FUSES : ∃ u, mg "MOST_FUSES" = some u ∧ RelV (.int 40) u
  c_MOST_LIGHTS : ∃ u, mg "MOST_LIGHTS" = some u ∧ RelV (.int 20) u
  e_InvalidNumber : En P w K mg base Γ 1 "InvalidNumber" "value"
  e_InvalidNet : En P w K mg base Γ 2 "InvalidNet" "part"
  e_InvalidPoint : En P w K mg base Γ 3 "InvalidPoint" "value"
  cf : ∀ c, c < 2 → ClsF Γ K c
  fl0 : ∀ (j : Nat) (x : Str), (["own_nodes", "own_fuses"] : List Str)[j]? = some x → (Γ.ct.fld 0)[j]? = some x
  fl1 : ∀ (j : Nat) (x : Str), (["own_net", "own_lights", "own_times"] : List Str)[j]? = some x → (Γ.ct.fld 1)[j]? = some x
section
variable {P : Program} {w : World} {K : PySem.W.Frag} {mg : Str → Option Value} {base : Heap} {Γ : Gm}
theorem sc_is_name : FnScope ["value", "letter"] ["value"] (defScope s_is_name) := ⟨rfl, rfl, rfl, by decide +kernel, rfl, by decide +kernel, by decide +kernel⟩
def b_is_name : Sf := (sSeq (sIf (gOr (gNot (gT (fU (pS1 (s1isi 2 tStr)) (fV 0)))) (gNot (gB (fCh qLe qLe (fC (.int 1)) (fBi snLen (aCons (fV 0) aNil)) (fC (.int 8)))))) (sRet (fC (.bl false))) sNil) (sRet (fBi bAll (aCons (fLc 100000 [1] (iAny (fV 0)) (bName 1) gYes (fB (pS (qIn)) (fV 1) (fC (.str ⟨#[97, 98, 99, 100, 101, 102, 103, 104, 105, 106, 107, 108, 109, 110, 111, 112, 113, 114, 115, 116, 117, 118, 119, 120, 121, 122]⟩)))) aNil))))
def v_is_name : Gf := mk 2 1 b_is_name
theorem k_is_name (T : Tk P w K mg base Γ)  {f : Addr} {fd : FuncData} (F : Fun K "is_name" "is_name" s_is_name f fd) : FnG P w K mg base (L2.CX P w) 10 f fd ["value"] (spH Γ v_is_name) :=
  fnH F sc_is_name fun cdv A outer s H E hr => by
    have tk : Takes (cxOf (L2.CX P w) P w K mg base ["value", "letter"] "is_name" (defScope s_is_name) f cdv A outer s H E) (wx E) := takes_of rfl rfl rfl rfl
    have hp := passes_of (X := cxOf (L2.CX P w) P w K mg base ["value", "letter"] "is_name" (defScope s_is_name) f cdv A outer s H E) rfl
    exact (dss_cons (ds_if (dt_w (dw_or (dt_not (jte (jisi T.ty T.i_str (.ty _) T.b_isinstance (de_v (pv 0)) (pe_bltn (v := .ty "str") rfl T.b_str (by decide +kernel) rfl)))) (dw_or1 (dt_not (jchT (qle T.R.O hr) (qle T.R.O hr) de_int (jlen T.b_len (jac (de_v (pv 0)) da_nil)) (jkx T.c_MOST_LETTERS fun _ => rfl)))))) (dss_one (ds_ret de_bl)) dss_nil) (dss_one (ds_ret (jall rfl T.b_all (jac (jlc (k := 100000) [("letter", 1)] rfl sc_is_name.nd (di_any (de_v (pv 0))) (show blkC ["value", "letter"] (defScope s_is_name) _ _ = true by decide +kernel) (by decide) (fun _ _ _ _ _ => (jgn sc_is_name.nd (i := 1))) (fun _ _ _ _ _ => dts_nil) (fun _ _ _ _ _ => (jcmp (qin) (de_v (pv 1)) (jkx T.c_LETTERS fun _ => rfl)))) da_nil)))))

theorem sc_are_nodes : FnScope ["value", "name"] ["value"] (defScope s_are_nodes) := ⟨rfl, rfl, rfl, by decide +kernel, rfl, by decide +kernel, by decide +kernel⟩
def b_are_nodes : Sf := (sSeq (sIf (gOr (gNot (gT (fU (pS1 (s1isi 2 tList)) (fV 0)))) (gOr (gNot (gB (fCh qLe qLe (fC (.int 1)) (fBi snLen (aCons (fV 0) aNil)) (fC (.int 30))))) (gNot (gT (fBi bAll (aCons (fLc 100000 [1] (iAny (fV 0)) (bName 1) gYes (fCall v_is_name (aCons (fV 1) aNil))) aNil)))))) (sRet (fC (.bl false))) sNil) (sRet (fB (pS (qEq)) (fLenSet (fV 0)) (fBi snLen (aCons (fV 0) aNil)))))
def v_are_nodes : Gf := mk 2 1 b_are_nodes
theorem k_are_nodes (T : Tk P w K mg base Γ) (c_is_name : Dn P w K mg base Γ 10 "is_name" ["value"] v_is_name) {f : Addr} {fd : FuncData} (F : Fun K "are_nodes" "are_nodes" s_are_nodes f fd) : FnG P w K mg base (L2.CX P w) 11 f fd ["value"] (spH Γ v_are_nodes) :=
  fnH F sc_are_nodes fun cdv A outer s H E hr => by
    have tk : Takes (cxOf (L2.CX P w) P w K mg base ["value", "name"] "are_nodes" (defScope s_are_nodes) f cdv A outer s H E) (wx E) := takes_of rfl rfl rfl rfl
    have hp := passes_of (X := cxOf (L2.CX P w) P w K mg base ["value", "name"] "are_nodes" (defScope s_are_nodes) f cdv A outer s H E) rfl
    exact (dss_cons (ds_if (dt_w (dw_or (dt_not (jte (jisi T.ty T.i_list (.ty _) T.b_isinstance (de_v (pv 0)) (pe_bltn (v := .ty "list") rfl T.b_list (by decide +kernel) rfl)))) (dw_or (dt_not (jchT (qle T.R.O hr) (qle T.R.O hr) de_int (jlen T.b_len (jac (de_v (pv 0)) da_nil)) (jkx T.c_MOST_NODES fun _ => rfl))) (dw_or1 (dt_not (jte (jall rfl T.b_all (jac (jlc (k := 100000) [("name", 1)] rfl sc_are_nodes.nd (di_any (de_v (pv 0))) (show blkC ["value", "name"] (defScope s_are_nodes) _ _ = true by decide +kernel) (by decide) (fun _ _ _ _ _ => (jgn sc_are_nodes.nd (i := 1))) (fun _ _ _ _ _ => dts_nil) (fun _ _ _ _ _ => (jcall c_is_name hr Mi.takesF (jac (de_v (pv 1)) da_nil)))) da_nil)))))))) (dss_one (ds_ret de_bl)) dss_nil) (dss_one (ds_ret (jcmp (qeq T.R.O hr) (jlenset T.b_len T.b_set rfl (de_v (pv 0))) (jlen T.b_len (jac (de_v (pv 0)) da_nil))))))

theorem sc_is_integer : FnScope ["value"] ["value"] (defScope sIsInt) := ⟨rfl, rfl, rfl, by decide +kernel, rfl, by decide +kernel, by decide +kernel⟩
def b_is_integer : Sf := (sRet (fAnd (fU (pS1 (s1isi 2 tInt)) (fV 0)) (fNot (fU (pS1 (s1isi 2 tBool)) (fV 0)))))
def v_is_integer : Gf := mk 1 1 b_is_integer
theorem k_is_integer (T : Tk P w K mg base Γ)  {f : Addr} {fd : FuncData} (F : Fun K "is_integer" "is_integer" sIsInt f fd) : FnG P w K mg base (L2.CX P w) 10 f fd ["value"] (spH Γ v_is_integer) :=
  fnH F sc_is_integer fun cdv A outer s H E hr => by
    have tk : Takes (cxOf (L2.CX P w) P w K mg base ["value"] "is_integer" (defScope sIsInt) f cdv A outer s H E) (wx E) := takes_of rfl rfl rfl rfl
    have hp := passes_of (X := cxOf (L2.CX P w) P w K mg base ["value"] "is_integer" (defScope sIsInt) f cdv A outer s H E) rfl
    exact (dss_one (ds_ret (de_and (jisi T.ty T.i_int (.ty _) T.b_isinstance (de_v (pv 0)) (pe_bltn (v := .ty "int") rfl T.b_int (by decide +kernel) rfl)) (de_one (de_not (jisi T.ty T.i_bool (.ty _) T.b_isinstance (de_v (pv 0)) (pe_bltn (v := .ty "bool") rfl T.b_bool (by decide +kernel) rfl)))))))

theorem sc_is_number : FnScope ["value"] ["value"] (defScope sIsNum) := ⟨rfl, rfl, rfl, by decide +kernel, rfl, by decide +kernel, by decide +kernel⟩
def b_is_number : Sf := (sRet (fOr (fU (pS1 (s1isi 2 tRat)) (fV 0)) (fCall v_is_integer (aCons (fV 0) aNil))))
def v_is_number : Gf := mk 1 1 b_is_number
theorem k_is_number (T : Tk P w K mg base Γ) (c_is_integer : Dn P w K mg base Γ 10 "is_integer" ["value"] v_is_integer) {f : Addr} {fd : FuncData} (F : Fun K "is_number" "is_number" sIsNum f fd) : FnG P w K mg base (L2.CX P w) 11 f fd ["value"] (spH Γ v_is_number) :=
  fnH F sc_is_number fun cdv A outer s H E hr => by
    have tk : Takes (cxOf (L2.CX P w) P w K mg base ["value"] "is_number" (defScope sIsNum) f cdv A outer s H E) (wx E) := takes_of rfl rfl rfl rfl
    have hp := passes_of (X := cxOf (L2.CX P w) P w K mg base ["value"] "is_number" (defScope sIsNum) f cdv A outer s H E) rfl
    exact (dss_one (ds_ret (de_or (jisi T.ty T.i_Ratio (.own _) T.b_isinstance (de_v (pv 0)) (pe_glob rfl T.R.g rfl)) (de_one (jcall c_is_integer hr tk (jac (de_v (pv 0)) da_nil))))))

theorem sc_ratio_of : FnScope ["value"] ["value"] (defScope s_ratio_of) := ⟨rfl, rfl, rfl, by decide +kernel, rfl, by decide +kernel, by decide +kernel⟩
def b_ratio_of : Sf := (sSeq (sIf (gNot (gT (fCall v_is_number (aCons (fV 0) aNil)))) (sRaise 1 (fV 0)) sNil) (sRet (fIf (gT (fU (pS1 (s1isi 2 tRat)) (fV 0))) (fV 0) (fRat1 1 (aCons (fV 0) aNil)))))
def v_ratio_of : Gf := mk 1 1 b_ratio_of
theorem k_ratio_of (T : Tk P w K mg base Γ) (c_is_number : Dn P w K mg base Γ 11 "is_number" ["value"] v_is_number) {f : Addr} {fd : FuncData} (F : Fun K "ratio_of" "ratio_of" s_ratio_of f fd) : FnG P w K mg base (L2.CX P w) 12 f fd ["value"] (spH Γ v_ratio_of) :=
  fnH F sc_ratio_of fun cdv A outer s H E hr => by
    have tk : Takes (cxOf (L2.CX P w) P w K mg base ["value"] "ratio_of" (defScope s_ratio_of) f cdv A outer s H E) (wx E) := takes_of rfl rfl rfl rfl
    have hp := passes_of (X := cxOf (L2.CX P w) P w K mg base ["value"] "ratio_of" (defScope s_ratio_of) f cdv A outer s H E) rfl
    exact (dss_cons (ds_if (dt_not (jte (jcall c_is_number hr tk (jac (de_v (pv 0)) da_nil)))) (dss_one (jrai T.e_InvalidNumber rfl hr tk (de_v (pv 0)))) dss_nil) (dss_one (ds_ret (de_if (jte (jisi T.ty T.i_Ratio (.own _) T.b_isinstance (de_v (pv 0)) (pe_glob rfl T.R.g rfl))) (de_v (pv 0)) (jrat1 T.R hr tk (jac (de_v (pv 0)) da_nil))))))

theorem sc_is_positive : FnScope ["value"] ["value"] (defScope s_is_positive) := ⟨rfl, rfl, rfl, by decide +kernel, rfl, by decide +kernel, by decide +kernel⟩
def b_is_positive : Sf := (sRet (fAnd (fCall v_is_number (aCons (fV 0) aNil)) (fBi bBool (aCons (fB (pS (qGt)) (fV 0) (fC (.int 0))) aNil))))
def v_is_positive : Gf := mk 1 1 b_is_positive
theorem k_is_positive (T : Tk P w K mg base Γ) (c_is_number : Dn P w K mg base Γ 11 "is_number" ["value"] v_is_number) {f : Addr} {fd : FuncData} (F : Fun K "is_positive" "is_positive" s_is_positive f fd) : FnG P w K mg base (L2.CX P w) 12 f fd ["value"] (spH Γ v_is_positive) :=
  fnH F sc_is_positive fun cdv A outer s H E hr => by
    have tk : Takes (cxOf (L2.CX P w) P w K mg base ["value"] "is_positive" (defScope s_is_positive) f cdv A outer s H E) (wx E) := takes_of rfl rfl rfl rfl
    have hp := passes_of (X := cxOf (L2.CX P w) P w K mg base ["value"] "is_positive" (defScope s_is_positive) f cdv A outer s H E) rfl
    exact (dss_one (ds_ret (de_and (jcall c_is_number hr tk (jac (de_v (pv 0)) da_nil)) (de_one (jbool T.b_bool (jac (jcmp (qgt T.R.O hr) (de_v (pv 0)) de_int) da_nil))))))

theorem sc_is_fuse : FnScope ["value", "nodes"] ["value", "nodes"] (defScope s_is_fuse) := ⟨rfl, rfl, rfl, by decide +kernel, rfl, by decide +kernel, by decide +kernel⟩
def b_is_fuse : Sf := (sSeq (sIf (gOr (gNot (gT (fU (pS1 (s1isi 2 tTup)) (fV 0)))) (gOr (gB (fB (pS (qNe)) (fBi snLen (aCons (fV 0) aNil)) (fC (.int 3)))) (gOr (gNot (gT (fCall v_is_name (aCons (fB (pS s2ix) (fV 0) (fC (.int 0))) aNil)))) (gNot (gT (fCall v_is_name (aCons (fB (pS s2ix) (fV 0) (fC (.int 1))) aNil))))))) (sRet (fC (.bl false))) sNil) (sRet (fAnd (fB (pS (qIn)) (fB (pS s2ix) (fV 0) (fC (.int 0))) (fV 1)) (fAnd (fB (pS (qIn)) (fB (pS s2ix) (fV 0) (fC (.int 1))) (fV 1)) (fCall v_is_positive (aCons (fB (pS s2ix) (fV 0) (fC (.int 2))) aNil))))))
def v_is_fuse : Gf := mk 2 2 b_is_fuse
theorem k_is_fuse (T : Tk P w K mg base Γ) (c_is_name : Dn P w K mg base Γ 10 "is_name" ["value"] v_is_name) (c_is_positive : Dn P w K mg base Γ 12 "is_positive" ["value"] v_is_positive) {f : Addr} {fd : FuncData} (F : Fun K "is_fuse" "is_fuse" s_is_fuse f fd) : FnG P w K mg base (L2.CX P w) 13 f fd ["value", "nodes"] (spH Γ v_is_fuse) :=
  fnH F sc_is_fuse fun cdv A outer s H E hr => by
    have tk : Takes (cxOf (L2.CX P w) P w K mg base ["value", "nodes"] "is_fuse" (defScope s_is_fuse) f cdv A outer s H E) (wx E) := takes_of rfl rfl rfl rfl
    have hp := passes_of (X := cxOf (L2.CX P w) P w K mg base ["value", "nodes"] "is_fuse" (defScope s_is_fuse) f cdv A outer s H E) rfl
    exact (dss_cons (ds_if (dt_w (dw_or (dt_not (jte (jisi T.ty T.i_tuple (.ty _) T.b_isinstance (de_v (pv 0)) (pe_bltn (v := .ty "tuple") rfl T.b_tuple (by decide +kernel) rfl)))) (dw_or (jcmpT (qne T.R.O hr) (jlen T.b_len (jac (de_v (pv 0)) da_nil)) de_int) (dw_or (dt_not (jte (jcall c_is_name hr tk (jac (jix (de_v (pv 0)) de_int) da_nil)))) (dw_or1 (dt_not (jte (jcall c_is_name hr tk (jac (jix (de_v (pv 0)) de_int) da_nil))))))))) (dss_one (ds_ret de_bl)) dss_nil) (dss_one (ds_ret (de_and (jcmp (qin) (jix (de_v (pv 0)) de_int) (de_v (pv 1))) (de_and (jcmp (qin) (jix (de_v (pv 0)) de_int) (de_v (pv 1))) (de_one (jcall c_is_positive hr tk (jac (jix (de_v (pv 0)) de_int) da_nil))))))))

theorem sc_Net__init : FnScope ["self", "nodes", "fuses", "one", "other", "length", "fuse"] ["self", "nodes", "fuses"] (defScope sNet_init) := ⟨rfl, rfl, rfl, by decide +kernel, rfl, by decide +kernel, by decide +kernel⟩
def b_Net__init : Sf := (sSeq (sIf (gNot (gT (fCall v_are_nodes (aCons (fV 1) aNil)))) (sRaise 2 (fC (.str ⟨#[110, 111, 100, 101, 115]⟩))) sNil) (sSeq (sIf (gOr (gNot (gT (fU (pS1 (s1isi 2 tList)) (fV 2)))) (gOr (gB (fB (pS (qGt)) (fBi snLen (aCons (fV 2) aNil)) (fC (.int 40)))) (gNot (gT (fBi bAll (aCons (fLc 100000 [6] (iAny (fV 2)) (bName 6) gYes (fCall v_is_fuse (aCons (fV 6) (aCons (fV 1) aNil)))) aNil)))))) (sRaise 2 (fC (.str ⟨#[102, 117, 115, 101, 115]⟩))) sNil) (sSeq (sStore 0 0 (fV 0) (fBi snList (aCons (fV 1) aNil))) (sStore 0 1 (fV 0) (fLc 100000 [3, 4, 5] (iAny (fV 2)) (bTup 3 (bsCons (bName 3) (bsCons (bName 4) (bsCons (bName 5) bsNil)))) gYes (fTu (aCons (fV 3) (aCons (fV 4) (aCons (fCall v_ratio_of (aCons (fV 5) aNil)) aNil)))))))))
def v_Net__init : Gf := mk 7 3 b_Net__init
theorem k_Net__init (T : Tk P w K mg base Γ) (c_are_nodes : Dn P w K mg base Γ 11 "are_nodes" ["value"] v_are_nodes) (c_ratio_of : Dn P w K mg base Γ 12 "ratio_of" ["value"] v_ratio_of) (c_is_fuse : Dn P w K mg base Γ 13 "is_fuse" ["value", "nodes"] v_is_fuse) {f : Addr} {fd : FuncData} (F : Fun K "__init__" "Net.__init__" sNet_init f fd) : FnG P w K mg base (L2.CX P w) 14 f fd ["self", "nodes", "fuses"] (spH Γ v_Net__init) :=
  fnH F sc_Net__init fun cdv A outer s H E hr => by
    have tk : Takes (cxOf (L2.CX P w) P w K mg base ["self", "nodes", "fuses", "one", "other", "length", "fuse"] "Net.__init__" (defScope sNet_init) f cdv A outer s H E) (wx E) := takes_of rfl rfl rfl rfl
    have hp := passes_of (X := cxOf (L2.CX P w) P w K mg base ["self", "nodes", "fuses", "one", "other", "length", "fuse"] "Net.__init__" (defScope sNet_init) f cdv A outer s H E) rfl
    exact (dss_cons (ds_if (dt_not (jte (jcall c_are_nodes hr tk (jac (de_v (pv 1)) da_nil)))) (dss_one (jrai T.e_InvalidNet rfl hr tk (jstr (by decide +kernel)))) dss_nil) (dss_cons (ds_if (dt_w (dw_or (dt_not (jte (jisi T.ty T.i_list (.ty _) T.b_isinstance (de_v (pv 2)) (pe_bltn (v := .ty "list") rfl T.b_list (by decide +kernel) rfl)))) (dw_or (jcmpT (qgt T.R.O hr) (jlen T.b_len (jac (de_v (pv 2)) da_nil)) (jkx T.c_MOST_FUSES fun _ => rfl)) (dw_or1 (dt_not (jte (jall rfl T.b_all (jac (jlc (k := 100000) [("fuse", 6)] rfl sc_Net__init.nd (di_any (de_v (pv 2))) (show blkC ["self", "nodes", "fuses", "one", "other", "length", "fuse"] (defScope sNet_init) _ _ = true by decide +kernel) (by decide) (fun _ _ _ _ _ => (jgn sc_Net__init.nd (i := 6))) (fun _ _ _ _ _ => dts_nil) (fun _ _ _ _ _ => (jcall c_is_fuse hr Mi.takesF (jac (de_v (pv 6)) (jac (de_v (pv 1)) da_nil))))) da_nil)))))))) (dss_one (jrai T.e_InvalidNet rfl hr tk (jstr (by decide +kernel)))) dss_nil) (dss_cons (jsto (T.cf 0 (by decide)) (T.fl0 0 "own_nodes" rfl) (de_v (pv 0)) (jlist T.b_list (jac (de_v (pv 1)) da_nil))) (dss_one (jsto (T.cf 0 (by decide)) (T.fl0 1 "own_fuses" rfl) (de_v (pv 0)) (jlc (k := 100000) [("one", 3), ("other", 4), ("length", 5)] rfl sc_Net__init.nd (di_any (de_v (pv 2))) (show blkC ["self", "nodes", "fuses", "one", "other", "length", "fuse"] (defScope sNet_init) _ _ = true by decide +kernel) (by decide) (fun _ _ _ _ _ => (jgt rfl (jgc (jgn sc_Net__init.nd (i := 3)) (jgc (jgn sc_Net__init.nd (i := 4)) (jgc (jgn sc_Net__init.nd (i := 5)) dgs_nil))))) (fun _ _ _ _ _ => dts_nil) (fun _ _ _ _ _ => (de_tup (jac (de_v (pv 3)) (jac (de_v (pv 4)) (jac (jcall c_ratio_of hr Mi.takesF (jac (de_v (pv 5)) da_nil)) da_nil)))))))))))

theorem sc_Net_nodes : FnScope ["self"] ["self"] (defScope sNet_nodes) := ⟨rfl, rfl, rfl, by decide +kernel, rfl, by decide +kernel, by decide +kernel⟩
def b_Net_nodes : Sf := (sRet (fBi snList (aCons (fFld 0 0 (fV 0)) aNil)))
def v_Net_nodes : Gf := mk 1 1 b_Net_nodes
theorem k_Net_nodes (T : Tk P w K mg base Γ)  {f : Addr} {fd : FuncData} (F : Fun K "nodes" "Net.nodes" sNet_nodes f fd) : FnG P w K mg base (L2.CX P w) 10 f fd ["self"] (spH Γ v_Net_nodes) :=
  fnH F sc_Net_nodes fun cdv A outer s H E hr => by
    have tk : Takes (cxOf (L2.CX P w) P w K mg base ["self"] "Net.nodes" (defScope sNet_nodes) f cdv A outer s H E) (wx E) := takes_of rfl rfl rfl rfl
    have hp := passes_of (X := cxOf (L2.CX P w) P w K mg base ["self"] "Net.nodes" (defScope sNet_nodes) f cdv A outer s H E) rfl
    exact (dss_one (ds_ret (jlist T.b_list (jac (jfld (T.cf 0 (by decide)) (T.fl0 0 "own_nodes" rfl) (de_v (pv 0))) da_nil))))

theorem sc_law_net_told : FnScope ["_law_nodes", "_law_fuses", "e"] ["_law_nodes", "_law_fuses"] (defScope s_law_net_told) := ⟨rfl, rfl, rfl, by decide +kernel, rfl, by decide +kernel, by decide +kernel⟩
def b_law_net_told : Sf := (sSeq (sTry 2 (fun S h => gdE 5 ((sExp (fMake 0 v_Net__init (aCons (fV 0) (aCons (fV 1) aNil)))) S h)) (⟨mtOne 2, suOne 2 (fun d => (sRet (fL (aCons (fXf 2 d) (aCons (fXi 2 true) aNil)))))⟩ :: [])) (sRet (fC .non)))
def v_law_net_told : Gf := mk 3 2 b_law_net_told
theorem k_law_net_told (T : Tk P w K mg base Γ) (c_Net__init : Kn P w K mg base Γ 14 0 "Net" ["self", "nodes", "fuses"] v_Net__init) {f : Addr} {fd : FuncData} (F : Fun K "_law_net_told" "_law_net_told" s_law_net_told f fd) : FnG P w K mg base (L2.CX P w) 16 f fd ["_law_nodes", "_law_fuses"] (spH Γ v_law_net_told) :=
  fnH F sc_law_net_told fun cdv A outer s H E hr => by
    have tk : Takes (cxOf (L2.CX P w) P w K mg base ["_law_nodes", "_law_fuses", "e"] "_law_net_told" (defScope s_law_net_told) f cdv A outer s H E) (wx E) := takes_of rfl rfl rfl rfl
    have hp := passes_of (X := cxOf (L2.CX P w) P w K mg base ["_law_nodes", "_law_fuses", "e"] "_law_net_told" (defScope s_law_net_told) f cdv A outer s H E) rfl
    exact (dss_cons (ds_try (jcl T.x_InvalidNet (fun a oe d dd pn hz hf => (dss_one (ds_ret (de_lst (jac (jxf T.x_InvalidNet hz hf (pv 2)) (jac (jxi T.x_InvalidNet T.k_InvalidNet_ValueError (.ty _) hz hf T.b_isinstance (pv 2) (pe_bltn (v := .ty "ValueError") rfl T.b_ValueError (by decide +kernel) rfl)) da_nil)))))) .nil) T.xa rfl rfl sc_law_net_told.nd (i := 2) rfl rfl tk (fun W pn xe tk hp => (dss_one (jexp (jmake c_Net__init hr tk (jac (de_v (pv 0)) (jac (de_v (pv 1)) da_nil))))))) (dss_one (ds_ret de_non)))


theorem sc_law_bad_fuses : FnScope ["_law_rows"] [] (defScope s_law_bad_fuses) := ⟨rfl, rfl, rfl, by decide +kernel, rfl, by decide +kernel, by decide +kernel⟩
def b_law_bad_fuses : Sf := (sSeq (sSet 0 (fL (aCons (fTu (aCons (fC (.str ⟨#[97]⟩)) (aCons (fC (.str ⟨#[98]⟩)) aNil))) (aCons (fTu (aCons (fC (.str ⟨#[97]⟩)) (aCons (fC (.str ⟨#[98]⟩)) (aCons (fC (.int 0)) aNil)))) (aCons (fTu (aCons (fC (.str ⟨#[97]⟩)) (aCons (fC (.str ⟨#[98]⟩)) (aCons (fU oNeg (fC (.int 1))) aNil)))) (aCons (fTu (aCons (fC (.str ⟨#[97]⟩)) (aCons (fC (.str ⟨#[98]⟩)) (aCons (fRat2 1 (aCons (fU oNeg (fC (.int 1))) (aCons (fC (.int 3)) aNil))) aNil)))) (aCons (fTu (aCons (fC (.str ⟨#[97]⟩)) (aCons (fC (.str ⟨#[99]⟩)) (aCons (fC (.int 1)) aNil)))) (aCons (fTu (aCons (fC (.str ⟨#[97]⟩)) (aCons (fC (.str ⟨#[98]⟩)) (aCons (fC (.bl true)) aNil)))) aNil)))))))) (sSeq (sSet 0 (fB oAdd (fV 0) (fL (aCons (fL (aCons (fC (.str ⟨#[97]⟩)) (aCons (fC (.str ⟨#[98]⟩)) (aCons (fC (.int 1)) aNil)))) (aCons (fTu (aCons (fC (.str ⟨#[97]⟩)) (aCons (fC (.str ⟨#[98]⟩)) (aCons (fC (.str ⟨#[49]⟩)) aNil)))) (aCons (fTu (aCons (fC (.str ⟨#[97]⟩)) (aCons (fC (.str ⟨#[98]⟩)) (aCons (fC .non) aNil)))) (aCons (fTu (aCons (fC .non) (aCons (fC (.str ⟨#[98]⟩)) (aCons (fC (.int 1)) aNil)))) (aCons (fTu (aCons (fC (.str ⟨#[97]⟩)) (aCons (fL (aCons (fC (.str ⟨#[98]⟩)) aNil)) (aCons (fC (.int 1)) aNil)))) (aCons (fC (.int 5)) (aCons (fC .non) aNil)))))))))) (sRet (fB oAdd (fV 0) (fL (aCons (fTu (aCons (fC (.str ⟨#[97]⟩)) (aCons (fC (.str ⟨#[98]⟩)) (aCons (fC (.int 1)) (aCons (fC (.int 1)) aNil))))) (aCons (fTu (aCons (fC (.str ⟨#[65]⟩)) (aCons (fC (.str ⟨#[98]⟩)) (aCons (fC (.int 1)) aNil)))) (aCons (fTu (aCons (fC (.str ⟨#[97]⟩)) (aCons (fC (.str ⟨#[98]⟩)) (aCons (fRat1 1 (aCons (fC (.int 0)) aNil)) aNil)))) aNil))))))))
def v_law_bad_fuses : Gf := mk 1 0 b_law_bad_fuses
theorem k_law_bad_fuses (T : Tk P w K mg base Γ)  {f : Addr} {fd : FuncData} (F : Fun K "_law_bad_fuses" "_law_bad_fuses" s_law_bad_fuses f fd) : FnG P w K mg base (L2.CX P w) 10 f fd [] (spH Γ v_law_bad_fuses) :=
  fnH F sc_law_bad_fuses fun cdv A outer s H E hr => by
    have tk : Takes (cxOf (L2.CX P w) P w K mg base ["_law_rows"] "_law_bad_fuses" (defScope s_law_bad_fuses) f cdv A outer s H E) (wx E) := takes_of rfl rfl rfl rfl
    have hp := passes_of (X := cxOf (L2.CX P w) P w K mg base ["_law_rows"] "_law_bad_fuses" (defScope s_law_bad_fuses) f cdv A outer s H E) rfl
    exact (dss_cons (jset (i := 0) sc_law_bad_fuses.nd (de_lst (jac (de_tup (jac (jstr (by decide +kernel)) (jac (jstr (by decide +kernel)) da_nil))) (jac (de_tup (jac (jstr (by decide +kernel)) (jac (jstr (by decide +kernel)) (jac de_int da_nil)))) (jac (de_tup (jac (jstr (by decide +kernel)) (jac (jstr (by decide +kernel)) (jac (jneg T.R.O hr de_int) da_nil)))) (jac (de_tup (jac (jstr (by decide +kernel)) (jac (jstr (by decide +kernel)) (jac (jrat2 T.R hr tk (jac (jneg T.R.O hr de_int) (jac de_int da_nil))) da_nil)))) (jac (de_tup (jac (jstr (by decide +kernel)) (jac (jstr (by decide +kernel)) (jac de_int da_nil)))) (jac (de_tup (jac (jstr (by decide +kernel)) (jac (jstr (by decide +kernel)) (jac de_bl da_nil)))) da_nil)))))))) (dss_cons (jset (i := 0) sc_law_bad_fuses.nd (jadd T.R.O hr (de_v (pv 0)) (de_lst (jac (de_lst (jac (jstr (by decide +kernel)) (jac (jstr (by decide +kernel)) (jac de_int da_nil)))) (jac (de_tup (jac (jstr (by decide +kernel)) (jac (jstr (by decide +kernel)) (jac (jstr (by decide +kernel)) da_nil)))) (jac (de_tup (jac (jstr (by decide +kernel)) (jac (jstr (by decide +kernel)) (jac de_non da_nil)))) (jac (de_tup (jac de_non (jac (jstr (by decide +kernel)) (jac de_int da_nil)))) (jac (de_tup (jac (jstr (by decide +kernel)) (jac (de_lst (jac (jstr (by decide +kernel)) da_nil)) (jac de_int da_nil)))) (jac de_int (jac de_non da_nil)))))))))) (dss_one (ds_ret (jadd T.R.O hr (de_v (pv 0)) (de_lst (jac (de_tup (jac (jstr (by decide +kernel)) (jac (jstr (by decide +kernel)) (jac de_int (jac de_int da_nil))))) (jac (de_tup (jac (jstr (by decide +kernel)) (jac (jstr (by decide +kernel)) (jac de_int da_nil)))) (jac (de_tup (jac (jstr (by decide +kernel)) (jac (jstr (by decide +kernel)) (jac (jrat1 T.R hr tk (jac de_int da_nil)) da_nil)))) da_nil)))))))))


theorem sc_Net__contains : FnScope ["self", "value"] ["self", "value"] (defScope sNet_contains) := ⟨rfl, rfl, rfl, by decide +kernel, rfl, by decide +kernel, by decide +kernel⟩
def b_Net__contains : Sf := (sRet (fAnd (fCall v_is_name (aCons (fV 1) aNil)) (fB (pS (qIn)) (fV 1) (fFld 0 0 (fV 0)))))
def v_Net__contains : Gf := mk 2 2 b_Net__contains
theorem k_Net__contains (T : Tk P w K mg base Γ) (c_is_name : Dn P w K mg base Γ 10 "is_name" ["value"] v_is_name) {f : Addr} {fd : FuncData} (F : Fun K "__contains__" "Net.__contains__" sNet_contains f fd) : FnG P w K mg base (L2.CX P w) 11 f fd ["self", "value"] (spH Γ v_Net__contains) :=
  fnH F sc_Net__contains fun cdv A outer s H E hr => by
    have tk : Takes (cxOf (L2.CX P w) P w K mg base ["self", "value"] "Net.__contains__" (defScope sNet_contains) f cdv A outer s H E) (wx E) := takes_of rfl rfl rfl rfl
    have hp := passes_of (X := cxOf (L2.CX P w) P w K mg base ["self", "value"] "Net.__contains__" (defScope sNet_contains) f cdv A outer s H E) rfl
    exact (dss_one (ds_ret (de_and (jcall c_is_name hr tk (jac (de_v (pv 1)) da_nil)) (de_one (jcmp (qin) (de_v (pv 1)) (jfld (T.cf 0 (by decide)) (T.fl0 0 "own_nodes" rfl) (de_v (pv 0))))))))

theorem sc_Net_is_point : FnScope ["self", "value"] ["self", "value"] (defScope sNet_is_point) := ⟨rfl, rfl, rfl, by decide +kernel, rfl, by decide +kernel, by decide +kernel⟩
def b_Net_is_point : Sf := (sSeq (sIf (gNot (gT (fU (pS1 (s1isi 2 tTup)) (fV 1)))) (sRet (fB (pS (qInO 0 v_Net__contains)) (fV 1) (fV 0))) sNil) (sSeq (sIf (gOr (gB (fB (pS (qNe)) (fBi snLen (aCons (fV 1) aNil)) (fC (.int 2)))) (gOr (gNot (gT (fCall v_is_integer (aCons (fB (pS s2ix) (fV 1) (fC (.int 0))) aNil)))) (gNot (gB (fCh qLe qLt (fC (.int 0)) (fB (pS s2ix) (fV 1) (fC (.int 0))) (fBi snLen (aCons (fFld 0 1 (fV 0)) aNil))))))) (sRet (fC (.bl false))) sNil) (sRet (fAnd (fCall v_is_number (aCons (fB (pS s2ix) (fV 1) (fC (.int 1))) aNil)) (fAnd (fBi bBool (aCons (fB (pS (qGe)) (fB (pS s2ix) (fV 1) (fC (.int 1))) (fC (.int 0))) aNil)) (fBi bBool (aCons (fB (pS (qLe)) (fB (pS s2ix) (fV 1) (fC (.int 1))) (fB (pS s2ix) (fB (pS s2ix) (fFld 0 1 (fV 0)) (fB (pS s2ix) (fV 1) (fC (.int 0)))) (fC (.int 2)))) aNil)))))))
def v_Net_is_point : Gf := mk 2 2 b_Net_is_point
theorem k_Net_is_point (T : Tk P w K mg base Γ) (c_is_integer : Dn P w K mg base Γ 10 "is_integer" ["value"] v_is_integer) (c_is_number : Dn P w K mg base Γ 11 "is_number" ["value"] v_is_number) (c_Net__contains : An P w K mg base Γ 11 0 "__contains__" ["self", "value"] v_Net__contains) {f : Addr} {fd : FuncData} (F : Fun K "is_point" "Net.is_point" sNet_is_point f fd) : FnG P w K mg base (L2.CX P w) 12 f fd ["self", "value"] (spH Γ v_Net_is_point) :=
  fnH F sc_Net_is_point fun cdv A outer s H E hr => by
    have tk : Takes (cxOf (L2.CX P w) P w K mg base ["self", "value"] "Net.is_point" (defScope sNet_is_point) f cdv A outer s H E) (wx E) := takes_of rfl rfl rfl rfl
    have hp := passes_of (X := cxOf (L2.CX P w) P w K mg base ["self", "value"] "Net.is_point" (defScope sNet_is_point) f cdv A outer s H E) rfl
    exact (dss_cons (ds_if (dt_not (jte (jisi T.ty T.i_tuple (.ty _) T.b_isinstance (de_v (pv 1)) (pe_bltn (v := .ty "tuple") rfl T.b_tuple (by decide +kernel) rfl)))) (dss_one (ds_ret (jcmp (qino c_Net__contains hr) (de_v (pv 1)) (de_v (pv 0))))) dss_nil) (dss_cons (ds_if (dt_w (dw_or (jcmpT (qne T.R.O hr) (jlen T.b_len (jac (de_v (pv 1)) da_nil)) de_int) (dw_or (dt_not (jte (jcall c_is_integer hr tk (jac (jix (de_v (pv 1)) de_int) da_nil)))) (dw_or1 (dt_not (jchT (qle T.R.O hr) (qlt T.R.O hr) de_int (jix (de_v (pv 1)) de_int) (jlen T.b_len (jac (jfld (T.cf 0 (by decide)) (T.fl0 1 "own_fuses" rfl) (de_v (pv 0))) da_nil)))))))) (dss_one (ds_ret de_bl)) dss_nil) (dss_one (ds_ret (de_and (jcall c_is_number hr tk (jac (jix (de_v (pv 1)) de_int) da_nil)) (de_and (jbool T.b_bool (jac (jcmp (qge T.R.O hr) (jix (de_v (pv 1)) de_int) de_int) da_nil)) (de_one (jbool T.b_bool (jac (jcmp (qle T.R.O hr) (jix (de_v (pv 1)) de_int) (jix (jix (jfld (T.cf 0 (by decide)) (T.fl0 1 "own_fuses" rfl) (de_v (pv 0))) (jix (de_v (pv 1)) de_int)) de_int)) da_nil)))))))))

theorem sc_Net_place_of : FnScope ["self", "fuse", "distance", "one", "other", "length"] ["self", "fuse", "distance"] (defScope sNet_place_of) := ⟨rfl, rfl, rfl, by decide +kernel, rfl, by decide +kernel, by decide +kernel⟩
def b_Net_place_of : Sf := (sSeq (sAsg (bTup 3 (bsCons (bName 3) (bsCons (bName 4) (bsCons (bName 5) bsNil)))) (fB (pS s2ix) (fFld 0 1 (fV 0)) (fV 1))) (sSeq (sIf (gB (fB (pS (qEq)) (fV 2) (fC (.int 0)))) (sRet (fV 3)) sNil) (sRet (fIf (gB (fB (pS (qEq)) (fV 2) (fV 5))) (fV 4) (fTu (aCons (fV 1) (aCons (fV 2) aNil)))))))
def v_Net_place_of : Gf := mk 6 3 b_Net_place_of
theorem k_Net_place_of (T : Tk P w K mg base Γ)  {f : Addr} {fd : FuncData} (F : Fun K "place_of" "Net.place_of" sNet_place_of f fd) : FnG P w K mg base (L2.CX P w) 10 f fd ["self", "fuse", "distance"] (spH Γ v_Net_place_of) :=
  fnH F sc_Net_place_of fun cdv A outer s H E hr => by
    have tk : Takes (cxOf (L2.CX P w) P w K mg base ["self", "fuse", "distance", "one", "other", "length"] "Net.place_of" (defScope sNet_place_of) f cdv A outer s H E) (wx E) := takes_of rfl rfl rfl rfl
    have hp := passes_of (X := cxOf (L2.CX P w) P w K mg base ["self", "fuse", "distance", "one", "other", "length"] "Net.place_of" (defScope sNet_place_of) f cdv A outer s H E) rfl
    exact (dss_cons (jasg (jix (jfld (T.cf 0 (by decide)) (T.fl0 1 "own_fuses" rfl) (de_v (pv 0))) (de_v (pv 1))) (jgt rfl (jgc (jgn sc_Net_place_of.nd (i := 3)) (jgc (jgn sc_Net_place_of.nd (i := 4)) (jgc (jgn sc_Net_place_of.nd (i := 5)) dgs_nil))))) (dss_cons (ds_if (jcmpT (qeq T.R.O hr) (de_v (pv 2)) de_int) (dss_one (ds_ret (de_v (pv 3)))) dss_nil) (dss_one (ds_ret (de_if (jcmpT (qeq T.R.O hr) (de_v (pv 2)) (de_v (pv 5))) (de_v (pv 4)) (de_tup (jac (de_v (pv 1)) (jac (de_v (pv 2)) da_nil))))))))

theorem sc_Net_point : FnScope ["self", "value"] ["self", "value"] (defScope sNet_point) := ⟨rfl, rfl, rfl, by decide +kernel, rfl, by decide +kernel, by decide +kernel⟩
def b_Net_point : Sf := (sSeq (sIf (gNot (gT (fMeth 0 v_Net_is_point (fV 0) (aCons (fV 1) aNil)))) (sRaise 3 (fV 1)) sNil) (sRet (fIf (gT (fU (pS1 (s1isi 2 tTup)) (fV 1))) (fMeth 0 v_Net_place_of (fV 0) (aCons (fB (pS s2ix) (fV 1) (fC (.int 0))) (aCons (fCall v_ratio_of (aCons (fB (pS s2ix) (fV 1) (fC (.int 1))) aNil)) aNil))) (fV 1))))
def v_Net_point : Gf := mk 2 2 b_Net_point
theorem k_Net_point (T : Tk P w K mg base Γ) (c_ratio_of : Dn P w K mg base Γ 12 "ratio_of" ["value"] v_ratio_of) (c_Net_is_point : Mn P w K mg base Γ 12 0 "is_point" ["self", "value"] v_Net_is_point) (c_Net_place_of : Mn P w K mg base Γ 10 0 "place_of" ["self", "fuse", "distance"] v_Net_place_of) {f : Addr} {fd : FuncData} (F : Fun K "point" "Net.point" sNet_point f fd) : FnG P w K mg base (L2.CX P w) 13 f fd ["self", "value"] (spH Γ v_Net_point) :=
  fnH F sc_Net_point fun cdv A outer s H E hr => by
    have tk : Takes (cxOf (L2.CX P w) P w K mg base ["self", "value"] "Net.point" (defScope sNet_point) f cdv A outer s H E) (wx E) := takes_of rfl rfl rfl rfl
    have hp := passes_of (X := cxOf (L2.CX P w) P w K mg base ["self", "value"] "Net.point" (defScope sNet_point) f cdv A outer s H E) rfl
    exact (dss_cons (ds_if (dt_not (jte (jmeth c_Net_is_point hr tk (de_v (pv 0)) (jac (de_v (pv 1)) da_nil)))) (dss_one (jrai T.e_InvalidPoint rfl hr tk (de_v (pv 1)))) dss_nil) (dss_one (ds_ret (de_if (jte (jisi T.ty T.i_tuple (.ty _) T.b_isinstance (de_v (pv 1)) (pe_bltn (v := .ty "tuple") rfl T.b_tuple (by decide +kernel) rfl))) (jmeth c_Net_place_of hr tk (de_v (pv 0)) (jac (jix (de_v (pv 1)) de_int) (jac (jcall c_ratio_of hr tk (jac (jix (de_v (pv 1)) de_int) da_nil)) da_nil))) (de_v (pv 1))))))

def v_time_at : Gf := vBad

def v_node_times : Gf := vBad

theorem sc_Net_distance : FnScope ["self", "one", "other", "first", "last"] ["self", "one", "other"] (defScope sNet_distance) := ⟨rfl, rfl, rfl, by decide +kernel, rfl, by decide +kernel, by decide +kernel⟩
def b_Net_distance : Sf := (sSeq (sPar 3 4 (aCons (fMeth 0 v_Net_point (fV 0) (aCons (fV 1) aNil)) (aCons (fMeth 0 v_Net_point (fV 0) (aCons (fV 2) aNil)) aNil))) (sRet (fCall v_time_at (aCons (fV 0) (aCons (fL (aCons (fTu (aCons (fV 3) (aCons (fRat1 1 (aCons (fC (.int 0)) aNil)) aNil))) aNil)) (aCons (fCall v_node_times (aCons (fV 0) (aCons (fL (aCons (fTu (aCons (fV 3) (aCons (fRat1 1 (aCons (fC (.int 0)) aNil)) aNil))) aNil)) aNil))) (aCons (fV 4) aNil)))))))
def v_Net_distance : Gf := mk 5 3 b_Net_distance
theorem k_Net_distance (T : Tk P w K mg base Γ) (c_Net_point : Mn P w K mg base Γ 13 0 "point" ["self", "value"] v_Net_point) (c_time_at : Dn P w K mg base Γ 1 "time_at" ["net", "lights", "times", "point"] v_time_at) (c_node_times : Dn P w K mg base Γ 1 "node_times" ["net", "lights"] v_node_times) {f : Addr} {fd : FuncData} (F : Fun K "distance" "Net.distance" sNet_distance f fd) : FnG P w K mg base (L2.CX P w) 14 f fd ["self", "one", "other"] (spH Γ v_Net_distance) :=
  fnH F sc_Net_distance fun cdv A outer s H E hr => by
    have tk : Takes (cxOf (L2.CX P w) P w K mg base ["self", "one", "other", "first", "last"] "Net.distance" (defScope sNet_distance) f cdv A outer s H E) (wx E) := takes_of rfl rfl rfl rfl
    have hp := passes_of (X := cxOf (L2.CX P w) P w K mg base ["self", "one", "other", "first", "last"] "Net.distance" (defScope sNet_distance) f cdv A outer s H E) rfl
    exact (dss_cons (jpar sc_Net_distance.nd (i := 3) (j := 4) (jac (jmeth c_Net_point hr tk (de_v (pv 0)) (jac (de_v (pv 1)) da_nil)) (jac (jmeth c_Net_point hr tk (de_v (pv 0)) (jac (de_v (pv 2)) da_nil)) da_nil))) (dss_one (ds_ret (jcall c_time_at hr tk (jac (de_v (pv 0)) (jac (de_lst (jac (de_tup (jac (de_v (pv 3)) (jac (jrat1 T.R hr tk (jac de_int da_nil)) da_nil))) da_nil)) (jac (jcall c_node_times hr tk (jac (de_v (pv 0)) (jac (de_lst (jac (de_tup (jac (de_v (pv 3)) (jac (jrat1 T.R hr tk (jac de_int da_nil)) da_nil))) da_nil)) da_nil))) (jac (de_v (pv 4)) da_nil))))))))

def v_Fire_end : Gf := vBad

def v_Fire__init : Gf := vBad

theorem sc_reach : FnScope ["net", "point"] ["net", "point"] (defScope s_reach) := ⟨rfl, rfl, rfl, by decide +kernel, rfl, by decide +kernel, by decide +kernel⟩
def b_reach : Sf := (sRet (fMeth 1 v_Fire_end (fMake 1 v_Fire__init (aCons (fV 0) (aCons (fL (aCons (fTu (aCons (fMeth 0 v_Net_point (fV 0) (aCons (fV 1) aNil)) (aCons (fC (.int 0)) aNil))) aNil)) aNil))) aNil))
def v_reach : Gf := mk 2 2 b_reach
theorem k_reach (T : Tk P w K mg base Γ) (c_Net_point : Mn P w K mg base Γ 13 0 "point" ["self", "value"] v_Net_point) (c_Fire_end : Mn P w K mg base Γ 1 1 "end" ["self"] v_Fire_end) (c_Fire__init : Kn P w K mg base Γ 1 1 "Fire" ["self", "net", "lights"] v_Fire__init) {f : Addr} {fd : FuncData} (F : Fun K "reach" "reach" s_reach f fd) : FnG P w K mg base (L2.CX P w) 14 f fd ["net", "point"] (spH Γ v_reach) :=
  fnH F sc_reach fun cdv A outer s H E hr => by
    have tk : Takes (cxOf (L2.CX P w) P w K mg base ["net", "point"] "reach" (defScope s_reach) f cdv A outer s H E) (wx E) := takes_of rfl rfl rfl rfl
    have hp := passes_of (X := cxOf (L2.CX P w) P w K mg base ["net", "point"] "reach" (defScope s_reach) f cdv A outer s H E) rfl
    exact (dss_one (ds_ret (jmeth0 c_Fire_end hr tk (jmake c_Fire__init hr tk (jac (de_v (pv 0)) (jac (de_lst (jac (de_tup (jac (jmeth c_Net_point hr tk (de_v (pv 0)) (jac (de_v (pv 1)) da_nil)) (jac de_int da_nil))) da_nil)) da_nil))))))

theorem sc_law_point_told : FnScope ["_law_door", "_law_net", "_law_value", "e"] ["_law_door", "_law_net", "_law_value"] (defScope s_law_point_told) := ⟨rfl, rfl, rfl, by decide +kernel, rfl, by decide +kernel, by decide +kernel⟩
def b_law_point_told : Sf := (sSeq (sTry 3 (fun S h => gdE 5 ((sIf (gB (fB (pS (qEq)) (fV 0) (fC (.int 0)))) (sExp (fMeth 0 v_Net_point (fV 1) (aCons (fV 2) aNil))) (sIf (gB (fB (pS (qEq)) (fV 0) (fC (.int 1)))) (sExp (fMeth 0 v_Net_distance (fV 1) (aCons (fV 2) (aCons (fC .non) aNil)))) (sIf (gB (fB (pS (qEq)) (fV 0) (fC (.int 2)))) (sExp (fMeth 0 v_Net_distance (fV 1) (aCons (fC (.str ⟨#[97]⟩)) (aCons (fV 2) aNil)))) (sExp (fCall v_reach (aCons (fV 1) (aCons (fV 2) aNil))))))) S h)) (⟨mtOne 3, suOne 3 (fun d => (sRet (fL (aCons (fBi bRepr (aCons (fXf 3 d) aNil)) (aCons (fXi 3 true) aNil)))))⟩ :: [])) (sRet (fC .non)))
def v_law_point_told : Gf := mk 4 3 b_law_point_told
theorem k_law_point_told (T : Tk P w K mg base Γ) (c_Net_point : Mn P w K mg base Γ 13 0 "point" ["self", "value"] v_Net_point) (c_Net_distance : Mn P w K mg base Γ 14 0 "distance" ["self", "one", "other"] v_Net_distance) (c_reach : Dn P w K mg base Γ 14 "reach" ["net", "point"] v_reach) {f : Addr} {fd : FuncData} (F : Fun K "_law_point_told" "_law_point_told" s_law_point_told f fd) : FnG P w K mg base (L2.CX P w) 15 f fd ["_law_door", "_law_net", "_law_value"] (spH Γ v_law_point_told) :=
  fnH F sc_law_point_told fun cdv A outer s H E hr => by
    have tk : Takes (cxOf (L2.CX P w) P w K mg base ["_law_door", "_law_net", "_law_value", "e"] "_law_point_told" (defScope s_law_point_told) f cdv A outer s H E) (wx E) := takes_of rfl rfl rfl rfl
    have hp := passes_of (X := cxOf (L2.CX P w) P w K mg base ["_law_door", "_law_net", "_law_value", "e"] "_law_point_told" (defScope s_law_point_told) f cdv A outer s H E) rfl
    exact (dss_cons (ds_try (jcl T.x_InvalidPoint (fun a oe d dd pn hz hf => (dss_one (ds_ret (de_lst (jac (jrepr (Pr.sui T.rp) hr.g (Fu.RoomH.mark (roomH (m := 13) hr (by decide)) _) T.b_repr (jac (jxf T.x_InvalidPoint hz hf (pv 3)) da_nil)) (jac (jxi T.x_InvalidPoint T.k_InvalidPoint_ValueError (.ty _) hz hf T.b_isinstance (pv 3) (pe_bltn (v := .ty "ValueError") rfl T.b_ValueError (by decide +kernel) rfl)) da_nil)))))) .nil) T.xa rfl rfl sc_law_point_told.nd (i := 3) rfl rfl tk (fun W pn xe tk hp => (dss_one (ds_if (jcmpT (qeq T.R.O hr) (de_v (pv 0)) de_int) (dss_one (jexp (jmeth c_Net_point hr tk (de_v (pv 1)) (jac (de_v (pv 2)) da_nil)))) (dss_one (ds_if (jcmpT (qeq T.R.O hr) (de_v (pv 0)) de_int) (dss_one (jexp (jmeth c_Net_distance hr tk (de_v (pv 1)) (jac (de_v (pv 2)) (jac de_non da_nil))))) (dss_one (ds_if (jcmpT (qeq T.R.O hr) (de_v (pv 0)) de_int) (dss_one (jexp (jmeth c_Net_distance hr tk (de_v (pv 1)) (jac (jstr (by decide +kernel)) (jac (de_v (pv 2)) da_nil))))) (dss_one (jexp (jcall c_reach hr tk (jac (de_v (pv 1)) (jac (de_v (pv 2)) da_nil))))))))))))) (dss_one (ds_ret de_non)))

theorem sc_law : FnScope ["_law_script", "_law_letters", "_law_many", "_law_net", "_law_k", "_law_pool_here", "_law_odd", "_law_nodes", "_law_row", "_law_fuses", "_law_values", "_law_value", "_law_letter", "_law_door"] ["_law_script"] (defScope sLaw) := ⟨rfl, rfl, rfl, by decide +kernel, rfl, by decide +kernel, by decide +kernel⟩
def b_law : Sf := (sSeq (sSet 1 (fC (.str ⟨#[97, 98, 99, 100, 101, 102, 103, 104, 105, 106, 107, 108, 109, 110, 111, 112, 113, 114, 115, 116, 117, 118, 119, 120, 121, 122]⟩))) (sSeq (sSet 2 (fB oAdd (fLc 100000 [12] (iAny (fV 1)) (bName 12) gYes (fV 12)) (fLc 100000 [12] (iAny (fV 1)) (bName 12) gYes (fB oAdd (fC (.str ⟨#[97]⟩)) (fV 12))))) (sSeq (sIf (gOr (gB (fB (pS (qNe)) (fProp 0 v_Net_nodes (fMake 0 v_Net__init (aCons (fSl (fV 2) oNo (oSo (fC (.int 30)))) (aCons (fB oMul (fL (aCons (fTu (aCons (fC (.str ⟨#[97]⟩)) (aCons (fC (.str ⟨#[98]⟩)) (aCons (fC (.int 1)) aNil)))) aNil)) (fC (.int 40))) aNil)))) (fSl (fV 2) oNo (oSo (fC (.int 30)))))) (gB (fB (pS (qNe)) (fCall v_law_net_told (aCons (fSl (fV 2) oNo (oSo (fC (.int 31)))) (aCons (fL aNil) aNil))) (fL (aCons (fC (.str ⟨#[110, 111, 100, 101, 115]⟩)) (aCons (fC (.bl true)) aNil)))))) (sRet (fC (.bl false))) sNil) (sSeq (sIf (gB (fB (pS (qNe)) (fCall v_law_net_told (aCons (fL (aCons (fC (.str ⟨#[97]⟩)) (aCons (fC (.str ⟨#[98]⟩)) aNil))) (aCons (fB oMul (fL (aCons (fTu (aCons (fC (.str ⟨#[97]⟩)) (aCons (fC (.str ⟨#[98]⟩)) (aCons (fC (.int 1)) aNil)))) aNil)) (fC (.int 41))) aNil))) (fL (aCons (fC (.str ⟨#[102, 117, 115, 101, 115]⟩)) (aCons (fC (.bl true)) aNil))))) (sRet (fC (.bl false))) sNil) (sSeq (sSet 3 (fMake 0 v_Net__init (aCons (fL (aCons (fC (.str ⟨#[97]⟩)) (aCons (fC (.str ⟨#[98]⟩)) aNil))) (aCons (fL (aCons (fTu (aCons (fC (.str ⟨#[97]⟩)) (aCons (fC (.str ⟨#[98]⟩)) (aCons (fC (.int 3)) aNil)))) (aCons (fTu (aCons (fC (.str ⟨#[98]⟩)) (aCons (fC (.str ⟨#[98]⟩)) (aCons (fRat2 1 (aCons (fC (.int 1)) (aCons (fC (.int 2)) aNil))) aNil)))) aNil))) aNil)))) (sSeq (sLawF 4 [4, 5, 6, 7, 8, 9, 10, 11, 13] (aCons (fBi snMaxK (aCons (fC (.int 1)) (aCons (fBi snMinK (aCons (fBi snLenK (aCons (fV 0) aNil)) (aCons (fC (.int 6)) aNil))) aNil))) aNil) (sSeq (sSet 5 (fCall vPool (aCons (fV 0) (aCons (fV 4) aNil)))) (sSeq (sSet 6 (fB (pS s2ix) (fL (aCons (fC .non) (aCons (fC (.str ⟨#[]⟩)) (aCons (fC (.str ⟨#[65]⟩)) (aCons (fC (.str ⟨#[116, 111, 111, 108, 111, 110, 103, 120, 120]⟩)) (aCons (fC (.str ⟨#[97, 49]⟩)) (aCons (fC (.int 5)) (aCons (fTu (aCons (fC (.str ⟨#[97]⟩)) aNil)) (aCons (fL (aCons (fC (.str ⟨#[97]⟩)) aNil)) (aCons fDnew aNil)))))))))) (fCall vTake (aCons (fV 5) (aCons (fC (.int 9)) aNil))))) (sSeq (sFor 100000 (iLst (fL (aCons (fC .non) (aCons (fTu aNil) (aCons (fTu (aCons (fC (.str ⟨#[97]⟩)) aNil)) (aCons (fL aNil) (aCons fDnew (aCons (fC (.str ⟨#[97, 98]⟩)) (aCons (fL (aCons (fC (.str ⟨#[97]⟩)) (aCons (fC (.str ⟨#[97]⟩)) aNil))) (aCons (fL (aCons (fC (.str ⟨#[97]⟩)) (aCons (fV 6) aNil))) (aCons (fL (aCons (fV 6) (aCons (fC (.str ⟨#[98]⟩)) (aCons (fC (.str ⟨#[99]⟩)) aNil)))) aNil))))))))))) (bName 7) (sIf (gB (fB (pS (qNe)) (fCall v_law_net_told (aCons (fV 7) (aCons (fC .non) aNil))) (fL (aCons (fC (.str ⟨#[110, 111, 100, 101, 115]⟩)) (aCons (fC (.bl true)) aNil))))) (sRet (fC (.bl false))) sNil)) (sSeq (sFor 100000 (iAny (fCall v_law_bad_fuses aNil)) (bName 8) (sIf (gB (fB (pS (qNe)) (fCall v_law_net_told (aCons (fL (aCons (fC (.str ⟨#[97]⟩)) (aCons (fC (.str ⟨#[98]⟩)) aNil))) (aCons (fL (aCons (fTu (aCons (fC (.str ⟨#[97]⟩)) (aCons (fC (.str ⟨#[98]⟩)) (aCons (fC (.int 2)) aNil)))) (aCons (fV 8) aNil))) aNil))) (fL (aCons (fC (.str ⟨#[102, 117, 115, 101, 115]⟩)) (aCons (fC (.bl true)) aNil))))) (sRet (fC (.bl false))) sNil)) (sSeq (sFor 100000 (iLst (fL (aCons (fC .non) (aCons (fTu aNil) (aCons fDnew (aCons (fC (.str ⟨#[97]⟩)) (aCons (fTu (aCons (fTu (aCons (fC (.str ⟨#[97]⟩)) (aCons (fC (.str ⟨#[98]⟩)) (aCons (fC (.int 1)) aNil)))) aNil)) aNil))))))) (bName 9) (sIf (gB (fB (pS (qNe)) (fCall v_law_net_told (aCons (fL (aCons (fC (.str ⟨#[97]⟩)) (aCons (fC (.str ⟨#[98]⟩)) aNil))) (aCons (fV 9) aNil))) (fL (aCons (fC (.str ⟨#[102, 117, 115, 101, 115]⟩)) (aCons (fC (.bl true)) aNil))))) (sRet (fC (.bl false))) sNil)) (sSeq (sSet 10 (fL (aCons (fV 6) (aCons (fC (.str ⟨#[99]⟩)) (aCons (fTu (aCons (fC (.int 0)) (aCons (fC (.int 4)) aNil))) (aCons (fTu (aCons (fC (.int 0)) (aCons (fU oNeg (fC (.int 1))) aNil))) (aCons (fTu (aCons (fC (.int 2)) (aCons (fC (.int 0)) aNil))) (aCons (fTu (aCons (fU oNeg (fC (.int 1))) (aCons (fC (.int 0)) aNil))) (aCons (fTu (aCons (fC (.bl true)) (aCons (fC (.int 0)) aNil))) (aCons (fTu (aCons (fC (.int 0)) (aCons (fC (.bl true)) aNil))) (aCons (fTu (aCons (fC (.int 0)) (aCons (fC (.str ⟨#[49]⟩)) aNil))) (aCons (fTu (aCons (fC (.int 0)) aNil)) (aCons (fTu (aCons (fC (.int 0)) (aCons (fC (.int 1)) (aCons (fC (.int 1)) aNil)))) (aCons (fL (aCons (fC (.int 0)) (aCons (fC (.int 1)) aNil))) aNil)))))))))))))) (sSeq (sSet 10 (fB oAdd (fV 10) (fL (aCons (fTu (aCons (fC (.str ⟨#[97]⟩)) (aCons (fC (.int 0)) aNil))) (aCons (fTu (aCons (fC (.int 0)) (aCons (fC .non) aNil))) (aCons (fTu (aCons (fC (.int 0)) (aCons (fRat2 1 (aCons (fC (.int 7)) (aCons (fC (.int 2)) aNil))) aNil))) (aCons (fTu (aCons (fC (.int 1)) (aCons (fC (.int 1)) aNil))) (aCons (fTu (aCons (fC (.int 1)) (aCons (fRat2 1 (aCons (fU oNeg (fC (.int 1))) (aCons (fC (.int 9)) aNil))) aNil))) aNil)))))))) (sSeq (sFor 100000 (iAny (fV 10)) (bName 11) (sSeq (sIf (gB (fB (pS (qIn')) (fMeth 0 v_Net_is_point (fV 3) (aCons (fV 11) aNil)) (fC (.bl false)))) (sRet (fC (.bl false))) sNil) (sIf (gB (fB (pS (qNe)) (fLc 100000 [13] (iR1 (aCons (fC (.int 4)) aNil)) (bName 13) gYes (fCall v_law_point_told (aCons (fV 13) (aCons (fV 3) (aCons (fV 11) aNil))))) (fB oMul (fL (aCons (fL (aCons (fBi bRepr (aCons (fV 11) aNil)) (aCons (fC (.bl true)) aNil))) aNil)) (fC (.int 4))))) (sRet (fC (.bl false))) sNil))) (sFor 100000 (iLst (fL (aCons (fC (.str ⟨#[97]⟩)) (aCons (fC (.str ⟨#[98]⟩)) (aCons (fTu (aCons (fC (.int 0)) (aCons (fC (.int 0)) aNil))) (aCons (fTu (aCons (fC (.int 0)) (aCons (fC (.int 3)) aNil))) (aCons (fTu (aCons (fC (.int 0)) (aCons (fRat2 1 (aCons (fC (.int 1)) (aCons (fC (.int 9)) aNil))) aNil))) (aCons (fTu (aCons (fC (.int 1)) (aCons (fRat2 1 (aCons (fC (.int 1)) (aCons (fC (.int 2)) aNil))) aNil))) (aCons (fTu (aCons (fC (.int 1)) (aCons (fRat1 1 (aCons (fC (.int 0)) aNil)) aNil))) aNil))))))))) (bName 11) (sIf (gOr (gB (fB (pS (qIn')) (fMeth 0 v_Net_is_point (fV 3) (aCons (fV 11) aNil)) (fC (.bl true)))) (gB (fB (pS (qIn')) (fCall v_law_point_told (aCons (fC (.int 0)) (aCons (fV 3) (aCons (fV 11) aNil)))) (fC .non)))) (sRet (fC (.bl false))) sNil))))))))))) (sRet (fC (.bl true)))))))))
def v_law : Gf := mk 14 1 b_law
theorem k_law (T : Tk P w K mg base Γ) (c_Net__init : Kn P w K mg base Γ 14 0 "Net" ["self", "nodes", "fuses"] v_Net__init) (c_Net_nodes : Pn P w K mg base Γ 10 0 "nodes" v_Net_nodes) (c_law_net_told : Dn P w K mg base Γ 16 "_law_net_told" ["_law_nodes", "_law_fuses"] v_law_net_told) (c_law_pool : Dn P w K mg base Γ 1 "_law_pool" ["_law_script", "_law_k"] vPool) (c_law_bad_fuses : Dn P w K mg base Γ 10 "_law_bad_fuses" [] v_law_bad_fuses) (c_law_take : Dn P w K mg base Γ 1 "_law_take" ["_law_pool_here", "_law_many"] vTake) (c_Net_is_point : Mn P w K mg base Γ 12 0 "is_point" ["self", "value"] v_Net_is_point) (c_law_point_told : Dn P w K mg base Γ 15 "_law_point_told" ["_law_door", "_law_net", "_law_value"] v_law_point_told) {f : Addr} {fd : FuncData} (F : Fun K "law" "law" sLaw f fd) : FnG P w K mg base (L2.CX P w) 17 f fd ["_law_script"] (spH Γ v_law) :=
  fnH F sc_law fun cdv A outer s H E hr => by
    have tk : Takes (cxOf (L2.CX P w) P w K mg base ["_law_script", "_law_letters", "_law_many", "_law_net", "_law_k", "_law_pool_here", "_law_odd", "_law_nodes", "_law_row", "_law_fuses", "_law_values", "_law_value", "_law_letter", "_law_door"] "law" (defScope sLaw) f cdv A outer s H E) (wx E) := takes_of rfl rfl rfl rfl
    have hp := passes_of (X := cxOf (L2.CX P w) P w K mg base ["_law_script", "_law_letters", "_law_many", "_law_net", "_law_k", "_law_pool_here", "_law_odd", "_law_nodes", "_law_row", "_law_fuses", "_law_values", "_law_value", "_law_letter", "_law_door"] "law" (defScope sLaw) f cdv A outer s H E) rfl
    exact (dss_cons (jset (i := 1) sc_law.nd (jstr (by decide +kernel))) (dss_cons (jset (i := 2) sc_law.nd (jadd T.R.O hr (jlc (k := 100000) [("_law_letter", 12)] rfl sc_law.nd (di_any (de_v (pv 1))) (show blkC ["_law_script", "_law_letters", "_law_many", "_law_net", "_law_k", "_law_pool_here", "_law_odd", "_law_nodes", "_law_row", "_law_fuses", "_law_values", "_law_value", "_law_letter", "_law_door"] (defScope sLaw) _ _ = true by decide +kernel) (by decide) (fun _ _ _ _ _ => (jgn sc_law.nd (i := 12))) (fun _ _ _ _ _ => dts_nil) (fun _ _ _ _ _ => (de_v (pv 12)))) (jlc (k := 100000) [("_law_letter", 12)] rfl sc_law.nd (di_any (de_v (pv 1))) (show blkC ["_law_script", "_law_letters", "_law_many", "_law_net", "_law_k", "_law_pool_here", "_law_odd", "_law_nodes", "_law_row", "_law_fuses", "_law_values", "_law_value", "_law_letter", "_law_door"] (defScope sLaw) _ _ = true by decide +kernel) (by decide) (fun _ _ _ _ _ => (jgn sc_law.nd (i := 12))) (fun _ _ _ _ _ => dts_nil) (fun _ _ _ _ _ => (jadd T.R.O hr (jstr (by decide +kernel)) (de_v (pv 12))))))) (dss_cons (ds_if (dt_w (dw_or (jcmpT (qne T.R.O hr) (jprop c_Net_nodes hr (jmake c_Net__init hr tk (jac (de_sl (de_v (pv 2)) do_none (do_some de_int)) (jac (jmul T.R.O hr (de_lst (jac (de_tup (jac (jstr (by decide +kernel)) (jac (jstr (by decide +kernel)) (jac de_int da_nil)))) da_nil)) de_int) da_nil)))) (de_sl (de_v (pv 2)) do_none (do_some de_int))) (dw_or1 (jcmpT (qne T.R.O hr) (jcall c_law_net_told hr tk (jac (de_sl (de_v (pv 2)) do_none (do_some de_int)) (jac (de_lst da_nil) da_nil))) (de_lst (jac (jstr (by decide +kernel)) (jac de_bl da_nil))))))) (dss_one (ds_ret de_bl)) dss_nil) (dss_cons (ds_if (jcmpT (qne T.R.O hr) (jcall c_law_net_told hr tk (jac (de_lst (jac (jstr (by decide +kernel)) (jac (jstr (by decide +kernel)) da_nil))) (jac (jmul T.R.O hr (de_lst (jac (de_tup (jac (jstr (by decide +kernel)) (jac (jstr (by decide +kernel)) (jac de_int da_nil)))) da_nil)) de_int) da_nil))) (de_lst (jac (jstr (by decide +kernel)) (jac de_bl da_nil)))) (dss_one (ds_ret de_bl)) dss_nil) (dss_cons (jset (i := 3) sc_law.nd (jmake c_Net__init hr tk (jac (de_lst (jac (jstr (by decide +kernel)) (jac (jstr (by decide +kernel)) da_nil))) (jac (de_lst (jac (de_tup (jac (jstr (by decide +kernel)) (jac (jstr (by decide +kernel)) (jac de_int da_nil)))) (jac (de_tup (jac (jstr (by decide +kernel)) (jac (jstr (by decide +kernel)) (jac (jrat2 T.R hr tk (jac de_int (jac de_int da_nil))) da_nil)))) da_nil))) da_nil)))) (dss_cons (jlaw (i := 4) (is := [4, 5, 6, 7, 8, 9, 10, 11, 13]) hp rfl sc_law.nd T.b_range (jac (jb (ca_maxK rfl) T.b_max (by decide +kernel) (jac de_int (jac (jb (ca_minK rfl) T.b_min (by decide +kernel) (jac (jb (ca_lenK T.hK) T.b_len (by decide +kernel) (jac (de_v (pv 0)) da_nil)) (jac de_int da_nil))) da_nil))) da_nil) (dss_cons (jset (i := 5) sc_law.nd (jcall c_law_pool hr tk (jac (de_v (pv 0)) (jac (de_v (pv 4)) da_nil)))) (dss_cons (jset (i := 6) sc_law.nd (jix (de_lst (jac de_non (jac (jstr (by decide +kernel)) (jac (jstr (by decide +kernel)) (jac (jstr (by decide +kernel)) (jac (jstr (by decide +kernel)) (jac de_int (jac (de_tup (jac (jstr (by decide +kernel)) da_nil)) (jac (de_lst (jac (jstr (by decide +kernel)) da_nil)) (jac de_dnew da_nil)))))))))) (jcall c_law_take hr tk (jac (de_v (pv 5)) (jac de_int da_nil))))) (dss_cons (jfor (k := 100000) hp rfl (di_lst (de_lst (jac de_non (jac (de_tup da_nil) (jac (de_tup (jac (jstr (by decide +kernel)) da_nil)) (jac (de_lst da_nil) (jac de_dnew (jac (jstr (by decide +kernel)) (jac (de_lst (jac (jstr (by decide +kernel)) (jac (jstr (by decide +kernel)) da_nil))) (jac (de_lst (jac (jstr (by decide +kernel)) (jac (de_v (pv 6)) da_nil))) (jac (de_lst (jac (de_v (pv 6)) (jac (jstr (by decide +kernel)) (jac (jstr (by decide +kernel)) da_nil)))) da_nil))))))))))) (jgn sc_law.nd (i := 7)) (dss_one (ds_if (jcmpT (qne T.R.O hr) (jcall c_law_net_told hr tk (jac (de_v (pv 7)) (jac de_non da_nil))) (de_lst (jac (jstr (by decide +kernel)) (jac de_bl da_nil)))) (dss_one (ds_ret de_bl)) dss_nil))) (dss_cons (jfor (k := 100000) hp rfl (di_any (jcall0 c_law_bad_fuses hr tk)) (jgn sc_law.nd (i := 8)) (dss_one (ds_if (jcmpT (qne T.R.O hr) (jcall c_law_net_told hr tk (jac (de_lst (jac (jstr (by decide +kernel)) (jac (jstr (by decide +kernel)) da_nil))) (jac (de_lst (jac (de_tup (jac (jstr (by decide +kernel)) (jac (jstr (by decide +kernel)) (jac de_int da_nil)))) (jac (de_v (pv 8)) da_nil))) da_nil))) (de_lst (jac (jstr (by decide +kernel)) (jac de_bl da_nil)))) (dss_one (ds_ret de_bl)) dss_nil))) (dss_cons (jfor (k := 100000) hp rfl (di_lst (de_lst (jac de_non (jac (de_tup da_nil) (jac de_dnew (jac (jstr (by decide +kernel)) (jac (de_tup (jac (de_tup (jac (jstr (by decide +kernel)) (jac (jstr (by decide +kernel)) (jac de_int da_nil)))) da_nil)) da_nil))))))) (jgn sc_law.nd (i := 9)) (dss_one (ds_if (jcmpT (qne T.R.O hr) (jcall c_law_net_told hr tk (jac (de_lst (jac (jstr (by decide +kernel)) (jac (jstr (by decide +kernel)) da_nil))) (jac (de_v (pv 9)) da_nil))) (de_lst (jac (jstr (by decide +kernel)) (jac de_bl da_nil)))) (dss_one (ds_ret de_bl)) dss_nil))) (dss_cons (jset (i := 10) sc_law.nd (de_lst (jac (de_v (pv 6)) (jac (jstr (by decide +kernel)) (jac (de_tup (jac de_int (jac de_int da_nil))) (jac (de_tup (jac de_int (jac (jneg T.R.O hr de_int) da_nil))) (jac (de_tup (jac de_int (jac de_int da_nil))) (jac (de_tup (jac (jneg T.R.O hr de_int) (jac de_int da_nil))) (jac (de_tup (jac de_bl (jac de_int da_nil))) (jac (de_tup (jac de_int (jac de_bl da_nil))) (jac (de_tup (jac de_int (jac (jstr (by decide +kernel)) da_nil))) (jac (de_tup (jac de_int da_nil)) (jac (de_tup (jac de_int (jac de_int (jac de_int da_nil)))) (jac (de_lst (jac de_int (jac de_int da_nil))) da_nil)))))))))))))) (dss_cons (jset (i := 10) sc_law.nd (jadd T.R.O hr (de_v (pv 10)) (de_lst (jac (de_tup (jac (jstr (by decide +kernel)) (jac de_int da_nil))) (jac (de_tup (jac de_int (jac de_non da_nil))) (jac (de_tup (jac de_int (jac (jrat2 T.R hr tk (jac de_int (jac de_int da_nil))) da_nil))) (jac (de_tup (jac de_int (jac de_int da_nil))) (jac (de_tup (jac de_int (jac (jrat2 T.R hr tk (jac (jneg T.R.O hr de_int) (jac de_int da_nil))) da_nil))) da_nil)))))))) (dss_cons (jfor (k := 100000) hp rfl (di_any (de_v (pv 10))) (jgn sc_law.nd (i := 11)) (dss_cons (ds_if (jcmpT (qisn) (jmeth c_Net_is_point hr tk (de_v (pv 3)) (jac (de_v (pv 11)) da_nil)) de_bl) (dss_one (ds_ret de_bl)) dss_nil) (dss_one (ds_if (jcmpT (qne T.R.O hr) (jlc (k := 100000) [("_law_door", 13)] rfl sc_law.nd (jr1 T.b_range (jac de_int da_nil)) (show blkC ["_law_script", "_law_letters", "_law_many", "_law_net", "_law_k", "_law_pool_here", "_law_odd", "_law_nodes", "_law_row", "_law_fuses", "_law_values", "_law_value", "_law_letter", "_law_door"] (defScope sLaw) _ _ = true by decide +kernel) (by decide) (fun _ _ _ _ _ => (jgn sc_law.nd (i := 13))) (fun _ _ _ _ _ => dts_nil) (fun _ _ _ _ _ => (jcall c_law_point_told hr Mi.takesF (jac (de_v (pv 13)) (jac (de_v (pv 3)) (jac (de_v (pv 11)) da_nil)))))) (jmul T.R.O hr (de_lst (jac (de_lst (jac (jrepr T.rp hr.g (roomH hr (by decide)) T.b_repr (jac (de_v (pv 11)) da_nil)) (jac de_bl da_nil))) da_nil)) de_int)) (dss_one (ds_ret de_bl)) dss_nil)))) (dss_one (jfor (k := 100000) hp rfl (di_lst (de_lst (jac (jstr (by decide +kernel)) (jac (jstr (by decide +kernel)) (jac (de_tup (jac de_int (jac de_int da_nil))) (jac (de_tup (jac de_int (jac de_int da_nil))) (jac (de_tup (jac de_int (jac (jrat2 T.R hr tk (jac de_int (jac de_int da_nil))) da_nil))) (jac (de_tup (jac de_int (jac (jrat2 T.R hr tk (jac de_int (jac de_int da_nil))) da_nil))) (jac (de_tup (jac de_int (jac (jrat1 T.R hr tk (jac de_int da_nil)) da_nil))) da_nil))))))))) (jgn sc_law.nd (i := 11)) (dss_one (ds_if (dt_w (dw_or (jcmpT (qisn) (jmeth c_Net_is_point hr tk (de_v (pv 3)) (jac (de_v (pv 11)) da_nil)) de_bl) (dw_or1 (jcmpT (qisn) (jcall c_law_point_told hr tk (jac de_int (jac (de_v (pv 3)) (jac (de_v (pv 11)) da_nil)))) de_non)))) (dss_one (ds_ret de_bl)) dss_nil))))))))))))) (dss_one (ds_ret de_bl))))))))
end
end He
end

/-! The end of a law by the heap evaluator: what the top has left, in bundles; the promises out of them. -/
noncomputable section
namespace He
open PySem L2
open PyProof.Rows hiding St
open Fu (RoomG FnG)
open L2H (RoomH roomH_of)
/-! ### what stands at a def, a method, a class -/
def FunK (K : PySem.W.Frag) (f : Addr) (x qual : Str) (st : Stmt) : Prop := ∃ oc od kV dc pm an cd ct sl, K.lookup f = some ⟨oc, od, .func (PySem.W.fnOf x qual (defArgs st) (defBody st) (defScope st) .none kV dc pm an cd ct), sl⟩ ∧ PySem.W.codeIn K cd qual = true ∧ PySem.W.keepIn K (.ref f) = true
theorem FunK.get {K : PySem.W.Frag} {f : Addr} {x qual : Str} {st : Stmt} (h : FunK K f x qual st) : ∃ fd, Fun K x qual st f fd := by
  obtain ⟨_, _, _, _, _, _, _, _, _, l, c, k⟩ := h
  exact ⟨_, fun_mk (st := st) l c k⟩
theorem FunK.kp {K : PySem.W.Frag} {f : Addr} {x qual : Str} {st : Stmt} (h : FunK K f x qual st) : PySem.W.keepIn K (.ref f) = true := by
  obtain ⟨_, _, _, _, _, _, _, _, _, _, _, k⟩ := h
  exact k
def DefK (K : PySem.W.Frag) (x : Str) (st : Stmt) : Prop := ∃ f, PySem.W.nsIn K mainGlobals x = some (some (.ref f)) ∧ FunK K f x x st
def MethK (K : PySem.W.Frag) (C : Addr) (m qual : Str) (st : Stmt) : Prop := ∃ f, PySem.W.findIn K (.ref C) m = some (some (.ref f)) ∧ PySem.W.isFn K (.ref f) = true ∧ FunK K f m qual st
def PropK (K : PySem.W.Frag) (C : Addr) (m qual : Str) (st : Stmt) : Prop := ∃ p f rs, PySem.W.findIn K (.ref C) m = some (some (.ref p)) ∧ PySem.W.specialIn K (.ref p) "__get__" = some (some (.builtin "property.__get__")) ∧ PySem.W.takesIn K (.ref p) = some true ∧ PySem.W.recIn K p "property" = some (.ref f :: rs) ∧ FunK K f m qual st
def InitK (K : PySem.W.Frag) (C : Addr) (qual : Str) (st : Stmt) : Prop := PySem.W.makesIn K C = true ∧ PySem.W.keepIn K (.ref C) = true ∧ MethK K C "__init__" qual st
structure ClsK (K : PySem.W.Frag) (C : Addr) : Prop where
  pg : PySem.W.plainGet K C Str.empty = true
  hd : PySem.W.hasDictIn K C = true
  po : PySem.W.plainOver K C = true
  sa : PySem.W.findIn K (.ref C) "__setattr__" = some (some (.builtin "object.__setattr__"))
  ca : PySem.W.findIn K (.ref C) "__class__" = some (some (.builtin "object.__class__"))
  mo : PySem.W.mroIn K C (.type "object") = some true
  ic : PySem.W.isClsIn K C = true
  ty : PySem.W.typeIn K (.ref C) = some (.type "type")
  s1 : PySem.W.subIn K (.ref C) (.type "int") = some false
  s2 : PySem.W.subIn K (.ref C) (.type "bool") = some false
  s3 : PySem.W.subIn K (.ref C) (.type "str") = some false
  s4 : PySem.W.subIn K (.ref C) (.type "list") = some false
  s5 : PySem.W.subIn K (.ref C) (.type "tuple") = some false
  s6 : PySem.W.subIn K (.ref C) (.type "dict") = some false
def NoAll (K : PySem.W.Frag) (C : Addr) : List Str → Prop
  | [] => True
  | f :: r => PySem.W.findIn K (.ref C) f = some none ∧ NoAll K C r
theorem NoAll.at_ {K : PySem.W.Frag} {C : Addr} : ∀ {l : List Str}, NoAll K C l → ∀ f ∈ l, NoAttr K C f
  | [], _, _, h => by simp at h
  | g :: r, h, f, m => by
    rcases List.mem_cons.mp m with rfl | m
    · exact h.1
    · exact NoAll.at_ h.2 f m
structure ErrK (K : PySem.W.Frag) (C : Addr) (qual f : Str) (st : Stmt) : Prop where
  cls : ∃ nm q N bs bm sn sub ab col dd k0 k1 k2 k3 k5, K.lookup C = some (excClassObj nm q C N bs bm true sn sub ab col dd k0 k1 k2 k3 k5 "ValueError.__new__") ∧ PySem.HandSPX.refsVE bm = true
  sa : PySem.W.findIn K (.ref C) "__setattr__" = some (some (.builtin "object.__setattr__"))
  ty : PySem.W.typeIn K (.ref C) = some (.type "type")
  kp : PySem.W.keepIn K (.ref C) = true
  ga : PySem.W.findIn K (.ref C) "__getattribute__" = some (some (.builtin "BaseException.__getattribute__"))
  gg : PySem.W.findIn K (.ref C) "__getattr__" = some none
  hd : PySem.W.hasDictIn K C = true
  no : PySem.W.findIn K (.ref C) f = some none
  ca : PySem.W.findIn K (.ref C) "__class__" = some (some (.builtin "object.__class__"))
  mo : PySem.W.mroIn K C (.type "object") = some true
  ini : ∃ fI, PySem.W.findIn K (.ref C) "__init__" = some (some (.ref fI)) ∧ PySem.W.typeIn K (.ref fI) = some (.type "function") ∧ FunK K fI "__init__" qual st
/-- any own error: it is one, a class -/
structure ExcK (K : PySem.W.Frag) (C : Addr) : Prop where
  be : PySem.W.subIn K (.ref C) (.type "BaseException") = some true
  ic : PySem.W.isClsIn K C = true
  ty : PySem.W.typeIn K (.ref C) = some (.type "type")
/-- what is said of object.__class__ -/
structure ObjK (K : PySem.W.Frag) : Prop where
  sp : PySem.W.specialIn K (.builtin "object.__class__") "__get__" = some (some (.builtin "getset_descriptor.__get__"))
  tk : PySem.W.takesIn K (.builtin "object.__class__") = some true
theorem ClsK.cl {K : PySem.W.Frag} {C : Addr} (h : ClsK K C) : Cls K C := ⟨h.pg, h.hd, h.po, h.sa⟩
theorem ClsK.ci {K : PySem.W.Frag} {C : Addr} (h : ClsK K C) (o : ObjK K) : Fu.ClsI K C := ⟨h.cl, h.ca, o.sp, o.tk, h.mo⟩
/-! ### kinds -/
theorem kit_rt {K : PySem.W.Frag} {C : Addr} {T : String} {b : Bool} (h : PySem.W.subIn K (.ref C) (.type T) = some b) (m : PySem.W.kitMeta T = true) : PySem.W.kitOne K (.ref C) (.type T) = some b := by
  have e : PySem.W.kitOne K (.ref C) (.type T) = (if PySem.W.kitMeta T = true then PySem.W.subIn K (.ref C) (.type T) else none) := rfl
  rw [e, if_pos m, h]
theorem cls_if {K : PySem.W.Frag} {C : Addr} (h2 : PySem.W.isClsIn K C = true) (h3 : PySem.W.typeIn K (.ref C) = some (.type "type")) : ((PySem.W.clsIn K C).isSome && PySem.W.typeIn K (.ref C) == some (.type "type")) = true := by
  have h2' : (PySem.W.clsIn K C).isSome = true := h2
  rw [h2', h3] <;> rfl
theorem kit_tr {K : PySem.W.Frag} {C : Addr} {T : String} (h : PySem.W.subIn K (.type T) (.ref C) = some false) (h2 : PySem.W.isClsIn K C = true) (h3 : PySem.W.typeIn K (.ref C) = some (.type "type")) : PySem.W.kitOne K (.type T) (.ref C) = some false := by
  have e : PySem.W.kitOne K (.type T) (.ref C) = (if ((PySem.W.clsIn K C).isSome && PySem.W.typeIn K (.ref C) == some (.type "type")) = true then PySem.W.subIn K (.type T) (.ref C) else none) := rfl
  rw [e, if_pos (cls_if h2 h3), h]
theorem kit_rr {K : PySem.W.Frag} {C D : Addr} {b : Bool} (h : PySem.W.subIn K (.ref D) (.ref C) = some b) (hb : D = C → b = true) (h2 : PySem.W.isClsIn K C = true) (h3 : PySem.W.typeIn K (.ref C) = some (.type "type")) : PySem.W.kitOne K (.ref D) (.ref C) = some b := by
  by_cases z : D = C
  · rw [hb z, z]
    exact Fu.kit_self
  · unfold PySem.W.kitOne
    rw [if_neg (by simpa using z)]
    show (if ((PySem.W.clsIn K C).isSome && PySem.W.typeIn K (.ref C) == some (.type "type")) = true then PySem.W.subIn K (.ref D) (.ref C) else none) = some b
    rw [if_pos (cls_if h2 h3), h]
theorem exm_of {K : PySem.W.Frag} {S C : Addr} {b : Bool} (h1 : PySem.W.subIn K (.ref C) (.type "BaseException") = some true) (h2 : PySem.W.isClsIn K C = true) (h3 : PySem.W.typeIn K (.ref C) = some (.type "type")) (h4 : PySem.W.subIn K (.ref S) (.ref C) = some b) :
    PySem.W.exmOne K (.ref S) (.ref C) = some b := by
  have e1 : (PySem.W.subIn K (.ref C) (.type "BaseException") == some true) = true := by rw [h1] <;> rfl
  show (if (PySem.W.subIn K (.ref C) (.type "BaseException") == some true) = true then (if ((PySem.W.clsIn K C).isSome && PySem.W.typeIn K (.ref C) == some (.type "type")) = true then PySem.W.subIn K (.ref S) (.ref C) else none) else none) = some b
  rw [if_pos e1, if_pos (cls_if h2 h3)]
  exact h4
section
variable {Γ : Gm} {K : PySem.W.Frag} {n : Nat}
theorem isF_ty {T : String} {f : Mi.D → Bool} (m : PySem.W.kitMeta T = true) (h0 : kitB "NoneType" T = some (f .non)) (h1 : ∀ b, kitB "bool" T = some (f (.bl b))) (h2 : ∀ i, kitB "int" T = some (f (.int i))) (h3 : ∀ x, kitB "str" T = some (f (.str x))) (h4 : ∀ l, kitB "list" T = some (f (.lst l))) (h5 : ∀ l, kitB "tuple" T = some (f (.tup l))) (h6 : ∀ k l, kitB "dict" T = some (f (.dic k l)))
    (h7 : ∀ q, f (.rat q) = false) (h8 : ∀ c l, f (.obj c l) = false) (r : PySem.W.subIn K (.ref Γ.ct.R) (.type T) = some false) (o : ∀ c, c < n → PySem.W.subIn K (.ref (Γ.ct.cls c)) (.type T) = some false) : Mi.IsF Γ.ct K n (.type T) f := ⟨fun d hd => by
  cases d with
  | non => exact Fu.kit_b h0
  | bl b => exact Fu.kit_b (h1 b)
  | int b => exact Fu.kit_b (h2 b)
  | str b => exact Fu.kit_b (h3 b)
  | lst b => exact Fu.kit_b (h4 b)
  | tup b => exact Fu.kit_b (h5 b)
  | dic k b => exact Fu.kit_b (h6 k b)
  | rat q => rw [h7]; exact kit_rt r m
  | obj c l => rw [h8]; exact kit_rt (o c (of_decide_eq_true hd)) m⟩
/-- isinstance(x, C), C an own class or Ratio -/
theorem isF_own {C : Addr} {f : Mi.D → Bool} (ic : PySem.W.isClsIn K C = true) (ty : PySem.W.typeIn K (.ref C) = some (.type "type")) (h0 : ∀ T ∈ ["NoneType", "bool", "int", "str", "list", "tuple", "dict"], PySem.W.subIn K (.type T) (.ref C) = some false)
    (hf : f .non = false ∧ (∀ b, f (.bl b) = false) ∧ (∀ b, f (.int b) = false) ∧ (∀ b, f (.str b) = false) ∧ (∀ b, f (.lst b) = false) ∧ (∀ b, f (.tup b) = false) ∧ ∀ k b, f (.dic k b) = false)
    (r : ∀ q, PySem.W.subIn K (.ref Γ.ct.R) (.ref C) = some (f (.rat q)) ∧ (Γ.ct.R = C → f (.rat q) = true)) (o : ∀ c l, c < n → PySem.W.subIn K (.ref (Γ.ct.cls c)) (.ref C) = some (f (.obj c l)) ∧ (Γ.ct.cls c = C → f (.obj c l) = true)) : Mi.IsF Γ.ct K n (.ref C) f := ⟨fun d hd => by
  obtain ⟨f0, f1, f2, f3, f4, f5, f6⟩ := hf
  cases d with
  | non => rw [f0]; exact kit_tr (h0 _ (by decide)) ic ty
  | bl b => rw [f1]; exact kit_tr (h0 _ (by decide)) ic ty
  | int b => rw [f2]; exact kit_tr (h0 _ (by decide)) ic ty
  | str b => rw [f3]; exact kit_tr (h0 _ (by decide)) ic ty
  | lst b => rw [f4]; exact kit_tr (h0 _ (by decide)) ic ty
  | tup b => rw [f5]; exact kit_tr (h0 _ (by decide)) ic ty
  | dic k b => rw [f6]; exact kit_tr (h0 _ (by decide)) ic ty
  | rat q => exact kit_rr (r q).1 (r q).2 ic ty
  | obj c l => exact kit_rr (o c l (of_decide_eq_true hd)).1 (o c l (of_decide_eq_true hd)).2 ic ty⟩
end
/-! ### promises -/
section
variable {P : Program} {w : World} {K : PySem.W.Frag} {mg : Str → Option Value} {base h : Heap} {Γ : Gm} {lev c : Nat} {x m qual : Str} {st : Stmt} {ps : List Str} {G : Gf}
theorem dn_of (X : K.In h) (N : h.Ns mainGlobals mg) (hk : DefK K x st) (ok : ∀ {f : Addr} {fd : FuncData}, Fun K x x st f fd → FnG P w K mg base (L2.CX P w) lev f fd ps (spH Γ G)) (bd : ∀ {f : Addr} {fd : FuncData}, Fun K x x st f fd → Binds K fd ps []) : Dn P w K mg base Γ lev x ps G := by
  obtain ⟨f, h1, h2⟩ := hk
  obtain ⟨fd, F⟩ := h2.get
  exact ⟨f, fd, ok F, PySem.W.mg_of X N h1, h2.kp, bd F⟩
theorem mn_of (hk : MethK K (Γ.ct.cls c) m qual st) (cf : ClsF Γ K c) (nf : m ∉ Γ.ct.fld c) (ok : ∀ {f : Addr} {fd : FuncData}, Fun K m qual st f fd → FnG P w K mg base (L2.CX P w) lev f fd ps (spH Γ G)) (bd : ∀ {f : Addr} {fd : FuncData}, Fun K m qual st f fd → Binds K fd ps []) : Mn P w K mg base Γ lev c m ps G := by
  obtain ⟨f, h1, h2, h3⟩ := hk
  obtain ⟨fd, F⟩ := h3.get
  exact ⟨⟨f, fd, ok F, ⟨h1, h2, h3.kp⟩, bd F⟩, cf, nf⟩
theorem an_of (hk : MethK K (Γ.ct.cls c) m qual st) (ok : ∀ {f : Addr} {fd : FuncData}, Fun K m qual st f fd → FnG P w K mg base (L2.CX P w) lev f fd ps (spH Γ G)) (bd : ∀ {f : Addr} {fd : FuncData}, Fun K m qual st f fd → Binds K fd ps []) : An P w K mg base Γ lev c m ps G := by
  obtain ⟨f, h1, h2, h3⟩ := hk
  obtain ⟨fd, F⟩ := h3.get
  exact ⟨f, fd, ok F, h1, h2, bd F⟩
theorem pn_of (hk : PropK K (Γ.ct.cls c) m qual st) (cf : ClsF Γ K c) (ok : ∀ {f : Addr} {fd : FuncData}, Fun K m qual st f fd → FnG P w K mg base (L2.CX P w) lev f fd ["self"] (spH Γ G)) (bd : ∀ {f : Addr} {fd : FuncData}, Fun K m qual st f fd → Binds K fd ["self"] []) : Pn P w K mg base Γ lev c m G := by
  obtain ⟨p, f, rs, h1, h2, h3, h4, h5⟩ := hk
  obtain ⟨fd, F⟩ := h5.get
  exact ⟨⟨p, f, fd, ok F, ⟨h1, h2, h3, rs, h4⟩, bd F⟩, cf⟩
theorem kn_of (hk : InitK K (Γ.ct.cls c) qual st) (hx : mg x = some (.ref (Γ.ct.cls c))) (ok : ∀ {f : Addr} {fd : FuncData}, Fun K "__init__" qual st f fd → FnG P w K mg base (L2.CX P w) lev f fd ps (spH Γ G)) (bd : ∀ {f : Addr} {fd : FuncData}, Fun K "__init__" qual st f fd → Binds K fd ps []) : Kn P w K mg base Γ lev c x ps G := by
  obtain ⟨h1, h2, f, h3, h4, h5⟩ := hk
  obtain ⟨fd, F⟩ := h5.get
  exact ⟨f, fd, ok F, ⟨h1, h3, h4, h2⟩, hx, bd F⟩
theorem errC_of {C : Addr} {f : Str} (hk : ErrK K C qual f st) (e : ExcK K C) (hx : mg x = some (.ref C)) : ∃ fI, Fu.ErrC K mg x f C fI ∧ FunK K fI "__init__" qual st := by
  obtain ⟨fI, h1, h2, h3⟩ := hk.ini
  exact ⟨fI, ⟨⟨hk.cls, hk.sa, e.be, hk.ty, hk.kp⟩, hx, h1, h2, hk.no, ⟨hk.ga, hk.gg, e.be, hk.hd⟩⟩, h3⟩
theorem en_of {f : Str} (hk : ErrK K (Γ.ct.err c) qual f st) (e : ExcK K (Γ.ct.err c)) (hx : mg x = some (.ref (Γ.ct.err c))) (ef : Γ.ct.erf c = some f) (ok : ∀ {fI : Addr} {fd : FuncData}, Fun K "__init__" qual st fI fd → Fu.ErrC K mg x f (Γ.ct.err c) fI → FnOk P w K mg base CX0 1 fI fd ["self", f] (Fu.spX (Γ.ct.err c) f)) (bd : ∀ {f' : Addr} {fd : FuncData}, Fun K "__init__" qual st f' fd → Binds K fd ["self", f] []) : En P w K mg base Γ c x f := by
  obtain ⟨fI, E, hF⟩ := errC_of hk e hx
  obtain ⟨fd, F⟩ := hF.get
  exact ⟨⟨fI, fd, E, ok F E, bd F⟩, ef⟩
theorem xn_of {f : Str} {nE : Nat} (hk : ErrK K (Γ.ct.err c) qual f st) (o : ObjK K) (e : ∀ c', c' < nE → ExcK K (Γ.ct.err c')) (hx : mg x = some (.ref (Γ.ct.err c))) (ef : Γ.ct.erf c = some f) (lt : c < nE) (sb : ∀ c', c' < nE → PySem.W.subIn K (.ref (Γ.ct.err c')) (.ref (Γ.ct.err c)) = some (mtOne c c')) : Xn K mg Γ nE c x f :=
  ⟨hx, fun c' h => exm_of (e c lt).be (e c lt).ic (e c lt).ty (sb c' h), lt, ⟨hk.ga, hk.gg, (e c lt).be, hk.hd⟩, ⟨hk.ga, hk.gg, (e c lt).be, hk.hd, hk.ca, o.sp, o.tk, hk.mo⟩, hk.no, ef⟩
/-! ### the law -/
/-- every answer is True -/
def isTd : D → Hs → Bool := fun d _ => match d with
  | .bl true => true
  | _ => false
theorem isTd_eq {d : D} {h : Hs} (e : isTd d h = true) : d = .bl true := by
  cases d with
  | bl b => cases b <;> first | rfl | cases e
  | _ => cases e
def isT (r : Rs D) : Bool := r.fold isTd
def h0 : Hs := ⟨0, .lf, []⟩
def spLaw (K : PySem.W.Frag) : Sp := fun vs H Q _ => ∃ (a : Addr) (ns : List Int), vs = [.ref a] ∧ SqL K H a (ns.map V.int) ∧ ns.length ≤ 63 ∧ ∀ H', Q (.bl true) H'
theorem fn_law {f : Addr} {fd : FuncData} (F : FnG P w K mg base (L2.CX P w) lev f fd ps (spH Γ G)) (hK : Γ.ct.K = K) (hx : ∀ ω, Γ.xc ω) (ht : isT (G [.scr] h0) = true) : FnG P w K mg base CX0 lev f fd ps (spLaw K) := by
  have m : ∀ vs H Q E, spLaw K vs H Q E → spH Γ G vs H Q (fun _ _ _ => False) := fun vs H Q E ⟨a, ns, hv, hs, hl, q⟩ => by
    subst hv
    refine ⟨⟨0, fun _ => 0, H⟩, h0, [.scr], ⟨rfl, Nat.zero_le _, Same.refl _, fun n hn => absurd hn (Nat.not_lt_zero _), fun n c hn => absurd hn (Nat.not_lt_zero _), fun n m hn => absurd hn (Nat.not_lt_zero _), hx _⟩, ⟨_, _, rfl, ⟨a, ns, rfl, hl, by rw [hK]; exact hs⟩, rfl⟩, ?_⟩
    generalize G [.scr] h0 = r at ht
    induction r with
    | no => cases ht
    | er c d h => cases ht
    | all n f ih => exact fun i hi => ih i (allN_at (show allN n _ = true from ht) hi)
    | ok d h =>
      intro ω1 H1 e1 r1 v hv
      have ht' : isTd d h = true := ht
      rw [isTd_eq ht'] at hv
      obtain rfl := hv
      exact q H1
  refine ⟨fun vs H Q E h => F.len vs H Q _ (m vs H Q E h), fun A outer s H args us vs Q E hr e0 hb r h => ?_⟩
  refine codeAny_mono (F.run A outer s H args us vs Q _ hr e0 hb r (m vs H Q E h)) fun z s' q => ?_
  cases z with
  | error e => obtain ⟨_, _, _, _, _, _, _, _, _, _, _, _, h⟩ := q; exact h.elim
  | ok fl => cases fl <;> exact q
end
end He
end

namespace He
theorem go : isT (v_law [.scr] h0) = true := by decide +kernel
end He

/-! The end of a law: Ratio out of what the top has left. -/
noncomputable section
namespace He
open PySem L2 Fu
open PyProof.Rows hiding St
open L2H (RoomH roomH_of)
def InitD (K : PySem.W.Frag) (C : Addr) : Prop := ∃ f T oc od kV dc pm an cd ct sl oT oU nT tk sT, PySem.W.findIn K (.ref C) "__init__" = some (some (.ref f)) ∧ PySem.W.isFn K (.ref f) = true ∧
  K.lookup f = some ⟨oc, od, .func (PySem.W.fnOf "__init__" "Ratio.__init__" (defArgs sInit) (defBody sInit) (defScope sInit) (.ref T) kV dc pm an cd ct), sl⟩ ∧ PySem.W.codeIn K cd "Ratio.__init__" = true ∧ PySem.W.keepIn K (.ref f) = true ∧ K.lookup T = some ⟨oT, oU, .seq #[.int 1 tk] nT, sT⟩
structure RatZ (K : PySem.W.Frag) (C : Addr) : Prop where
  cls : ClsK K C
  mks : PySem.W.makesIn K C = true
  kc : PySem.W.keepIn K (.ref C) = true
  nT : PySem.W.findIn K (.ref C) "own_top" = some none
  nB : PySem.W.findIn K (.ref C) "own_bottom" = some none
  ne : PySem.W.findIn K (.ref C) "__ne__" = some (some (.builtin "object.__ne__"))
  m1 : PySem.W.mroIn K C (.type "NoneType") = some false
  m2 : PySem.W.mroIn K C (.type "bool") = some false
  m3 : PySem.W.mroIn K C (.type "int") = some false
  m4 : PySem.W.mroIn K C (.type "str") = some false
  m5 : PySem.W.mroIn K C (.type "list") = some false
  m6 : PySem.W.mroIn K C (.type "tuple") = some false
  m7 : PySem.W.mroIn K C (.type "dict") = some false
  sf : PySem.W.selfFirst K C = true
  ia : PySem.W.findIn K (.type "int") "__add__" = some (some (.builtin "int.__add__"))
  ira : PySem.W.findIn K (.type "int") "__radd__" = some (some (.builtin "int.__radd__"))
  is : PySem.W.findIn K (.type "int") "__sub__" = some (some (.builtin "int.__sub__"))
  irs : PySem.W.findIn K (.type "int") "__rsub__" = some (some (.builtin "int.__rsub__"))
  im : PySem.W.findIn K (.type "int") "__mul__" = some (some (.builtin "int.__mul__"))
  irm : PySem.W.findIn K (.type "int") "__rmul__" = some (some (.builtin "int.__rmul__"))
  init : InitD K C
  add : MethK K C "__add__" "Ratio.__add__" sRatio_add
  radd : MethK K C "__radd__" "Ratio.__radd__" sRatio_radd
  sub : MethK K C "__sub__" "Ratio.__sub__" sRatio_sub
  rsub : MethK K C "__rsub__" "Ratio.__rsub__" sRatio_rsub
  mul : MethK K C "__mul__" "Ratio.__mul__" sRatio_mul
  rmul : MethK K C "__rmul__" "Ratio.__rmul__" sRatio_rmul
  eq : MethK K C "__eq__" "Ratio.__eq__" sEq
  lt : MethK K C "__lt__" "Ratio.__lt__" sRatio_lt
  le : MethK K C "__le__" "Ratio.__le__" sRatio_le
  gt : MethK K C "__gt__" "Ratio.__gt__" sRatio_gt
  ge : MethK K C "__ge__" "Ratio.__ge__" sRatio_ge
  neg : MethK K C "__neg__" "Ratio.__neg__" sRatio_neg
  abs : MethK K C "__abs__" "Ratio.__abs__" sRatio_abs
  bool : MethK K C "__bool__" "Ratio.__bool__" sRatio_bool
  str : MethK K C "__str__" "Ratio.__str__" sRatio_str
  repr : MethK K C "__repr__" "Ratio.__repr__" sRepr
  isi : DefK K "is_integer" sIsInt
  gcd : DefK K "common_divisor" sGcd
  isn : DefK K "is_number" sIsNum
  par : DefK K "parts_of" sParts
theorem bd1 {K : PySem.W.Frag} {x qual : Str} {st : Stmt} {f : Addr} {fd : FuncData} {ps : List Str} (F : Fun K x qual st f fd) (b : Fun K x qual st f fd → Binds K fd ps []) : Binds K fd ps [] := b F
theorem rat_of {P : Program} {w : World} {K : PySem.W.Frag} {mg : Str → Option Value} {base h : Heap} {Γ : Gm} {ci : Nat} (X : K.In h) (N : h.Ns mainGlobals mg) (Z : RatZ K Γ.ct.R) (o : ObjK K) (g : mg "Ratio" = some (.ref Γ.ct.R)) (EN : En P w K mg base Γ ci "InvalidNumber" "value")
    (nisi : mg "isinstance" = none) (nint : mg "int" = none) (nbool : mg "bool" = none) (nabs : mg "abs" = none) (nstr : mg "str" = none) : Rn P w K mg base Γ ci ∧ Pr P w K mg base Γ := by
  have ci' := Z.cls.ci o
  have R : RatC K Γ.ct.R := ⟨ci', kit_rt Z.cls.s1 (by decide +kernel), kit_rt Z.cls.s2 (by decide +kernel), Z.nT, Z.nB⟩
  have R2 : RatK K mg Γ.ct.R := ⟨g, fun T hT => kit_tr (by simp only [List.mem_cons, List.not_mem_nil, or_false] at hT; rcases hT with h | h | h | h | h | h | h <;> (subst h; with_unfolding_all rfl)) Z.cls.ic Z.cls.ty⟩
  have NB : NoB K Γ.ct.R := ⟨fun T hT => by simp only [List.mem_cons, List.not_mem_nil, or_false] at hT; rcases hT with h | h | h | h | h | h | h <;> subst h <;> first | exact Z.m1 | exact Z.m2 | exact Z.m3 | exact Z.m4 | exact Z.m5 | exact Z.m6 | exact Z.m7⟩
  have B : Bt mg := ⟨nisi, nint, nbool, nabs⟩
  obtain ⟨⟨fX, fdX, EC, okX, bX⟩, _⟩ := EN
  have I : IN P w K mg base (Γ.ct.err ci) fX fdX := ⟨EC, okX, bX⟩
  obtain ⟨fii, aii, kii⟩ := Z.isi
  obtain ⟨_, Fii⟩ := kii.get
  have Gii : Def P w K mg base CX0 1 "is_integer" ["value"] (spIsInt Γ.ct.R) fii _ := ⟨ok_isInt Fii B R, PySem.W.mg_of X N aii, kii.kp, Fii.binds (ps := ["value"]) fun _ _ _ _ _ _ us hl => match us, hl with | [_], _ => rfl⟩
  obtain ⟨fgc, agc, kgc⟩ := Z.gcd
  obtain ⟨_, Fgc⟩ := kgc.get
  have Ggc : Def P w K mg base CX0 1 "common_divisor" ["one", "other"] spGcd fgc _ := ⟨ok_gcd Fgc B, PySem.W.mg_of X N agc, kgc.kp, Fgc.binds (ps := ["one", "other"]) fun _ _ _ _ _ _ us hl => match us, hl with | [_, _], _ => rfl⟩
  obtain ⟨fin, ain, kin⟩ := Z.isn
  obtain ⟨_, Fin⟩ := kin.get
  have Gin : Def P w K mg base CX0 2 "is_number" ["value"] (spIsNum Γ.ct.R) fin _ := ⟨ok_isNum Fin B R R2 Gii, PySem.W.mg_of X N ain, kin.kp, Fin.binds (ps := ["value"]) fun _ _ _ _ _ _ us hl => match us, hl with | [_], _ => rfl⟩
  obtain ⟨fpa, apa, kpa⟩ := Z.par
  obtain ⟨_, Fpa⟩ := kpa.get
  have Gpa : Def P w K mg base CX0 1 "parts_of" ["number"] (spParts Γ.ct.R) fpa _ := ⟨ok_parts Fpa B R R2, PySem.W.mg_of X N apa, kpa.kp, Fpa.binds (ps := ["number"]) fun _ _ _ _ _ _ us hl => match us, hl with | [_], _ => rfl⟩
  obtain ⟨fI, T, _, _, _, _, _, _, _, _, _, _, _, nT, tk, _, aI, iI, lI, cI, kI, lT⟩ := Z.init
  have FI : FunD K "__init__" "Ratio.__init__" (defArgs sInit) (defBody sInit) (defScope sInit) [.int 1] [] fI _ := ⟨⟨_, _, _, _, _, _, _, _, _, _, rfl, lI, cI, .inr ⟨by simp, T, _, [.int 1 tk], nT, rfl, lT, rfl, .cons ⟨tk, rfl⟩ .nil⟩, .inl rfl⟩, kI⟩
  obtain ⟨d0, hd0, bi2⟩ := FI.binds1 (ps := ["self", "top", "bottom"]) 3 1 (by simp) rfl fun T kV doc pm an cdv ct us its hu hi => by
    match us, hu, its, hi with
    | [_, _, _], _, [_], _ => exact ⟨_, rfl, rfl⟩
  cases hd0
  obtain ⟨ds, hds, bi1⟩ := FI.binds1 (ps := ["self", "top", "bottom"]) 2 0 (by simp) rfl fun T kV doc pm an cdv ct us its hu hi => by
    match us, hu, its, hi with
    | [_, _], _, [_], _ => exact ⟨_, rfl, rfl⟩
  have M : RatM P w K mg base Γ.ct.R (Γ.ct.err ci) fI _ ds := ⟨⟨Z.mks, aI, iI, Z.kc⟩, ok_init FI B R I Gii Ggc, bi2, bi1, hds⟩
  obtain ⟨feq, aeq, ieq, keq⟩ := Z.eq
  obtain ⟨_, Feq⟩ := keq.get
  have beq := Feq.binds (ps := ["self", "other"]) fun _ _ _ _ _ _ us hl => match us, hl with | [_, _], _ => rfl
  obtain ⟨fadd, aadd, iadd, kadd⟩ := Z.add
  obtain ⟨_, Fadd⟩ := kadd.get
  have badd := Fadd.binds (ps := ["self", "other"]) fun _ _ _ _ _ _ us hl => match us, hl with | [_, _], _ => rfl
  obtain ⟨fradd, aradd, iradd, kradd⟩ := Z.radd
  obtain ⟨_, Fradd⟩ := kradd.get
  have bradd := Fradd.binds (ps := ["self", "other"]) fun _ _ _ _ _ _ us hl => match us, hl with | [_, _], _ => rfl
  obtain ⟨fsub, asub, isub, ksub⟩ := Z.sub
  obtain ⟨_, Fsub⟩ := ksub.get
  have bsub := Fsub.binds (ps := ["self", "other"]) fun _ _ _ _ _ _ us hl => match us, hl with | [_, _], _ => rfl
  obtain ⟨frsub, arsub, irsub, krsub⟩ := Z.rsub
  obtain ⟨_, Frsub⟩ := krsub.get
  have brsub := Frsub.binds (ps := ["self", "other"]) fun _ _ _ _ _ _ us hl => match us, hl with | [_, _], _ => rfl
  obtain ⟨fmul, amul, imul, kmul⟩ := Z.mul
  obtain ⟨_, Fmul⟩ := kmul.get
  have bmul := Fmul.binds (ps := ["self", "other"]) fun _ _ _ _ _ _ us hl => match us, hl with | [_, _], _ => rfl
  obtain ⟨frmul, armul, irmul, krmul⟩ := Z.rmul
  obtain ⟨_, Frmul⟩ := krmul.get
  have brmul := Frmul.binds (ps := ["self", "other"]) fun _ _ _ _ _ _ us hl => match us, hl with | [_, _], _ => rfl
  obtain ⟨flt, alt, ilt, klt⟩ := Z.lt
  obtain ⟨_, Flt⟩ := klt.get
  obtain ⟨fle, ale, ile, kle⟩ := Z.le
  obtain ⟨_, Fle⟩ := kle.get
  obtain ⟨fgt, agt, igt, kgt⟩ := Z.gt
  obtain ⟨_, Fgt⟩ := kgt.get
  obtain ⟨fge, age, ige, kge⟩ := Z.ge
  obtain ⟨_, Fge⟩ := kge.get
  obtain ⟨fneg, aneg, ineg, kneg⟩ := Z.neg
  obtain ⟨_, Fneg⟩ := kneg.get
  have bneg := Fneg.binds (ps := ["self"]) fun _ _ _ _ _ _ us hl => match us, hl with | [_], _ => rfl
  obtain ⟨fabs, aabs, iabs, kabs⟩ := Z.abs
  obtain ⟨_, Fabs⟩ := kabs.get
  obtain ⟨fboo, aboo, iboo, kboo⟩ := Z.bool
  obtain ⟨_, Fboo⟩ := kboo.get
  obtain ⟨fstr, astr, istr, kstr⟩ := Z.str
  obtain ⟨_, Fstr⟩ := kstr.get
  obtain ⟨frp, arp, irp, krp⟩ := Z.repr
  obtain ⟨_, Frp⟩ := krp.get
  have Geq : FnOk P w K mg base CX0 3 feq _ ["self", "other"] (spEqR Γ.ct.R) := ok_eq Feq R Gin Gpa
  have Trp : ReprC P w K mg base Γ.ct.R frp _ (spRepr Γ.ct.R) := ⟨ok_repr Frp nstr R, arp, irp, Frp.binds (ps := ["self"]) fun _ _ _ _ _ _ us hl => match us, hl with | [_], _ => rfl⟩
  have Gadd := ok_add (P := P) (w := w) (base := base) Fadd R R2 Gin Gpa M
  have Gsub := ok_sub (P := P) (w := w) (base := base) Fsub R R2 Gin Gpa M
  have Gmul := ok_mul (P := P) (w := w) (base := base) Fmul R R2 Gin Gpa M
  have Gneg := ok_neg (P := P) (w := w) (base := base) Fneg B R R2 M
  have Gabs := ok_abs (P := P) (w := w) (base := base) Fabs B R R2 M
  have Oadd : OwnB K Γ.ct.R .Add fadd fradd := ⟨⟨aadd, iadd⟩, ⟨aradd, iradd⟩, Z.sf, ⟨_, Z.ia, PySem.F.slot_int_add, by decide +kernel, fun P w A E s x dx i t Q hx h => PySem.W.fu_dI_add hx h⟩, ⟨_, Z.ira⟩, Z.cls.s1⟩
  have Osub : OwnB K Γ.ct.R .Sub fsub frsub := ⟨⟨asub, isub⟩, ⟨arsub, irsub⟩, Z.sf, ⟨_, Z.is, PySem.F.slot_int_sub, by decide +kernel, fun P w A E s x dx i t Q hx h => PySem.W.fu_dI_sub hx h⟩, ⟨_, Z.irs⟩, Z.cls.s1⟩
  have Omul : OwnB K Γ.ct.R .Mult fmul frmul := ⟨⟨amul, imul⟩, ⟨armul, irmul⟩, Z.sf, ⟨_, Z.im, PySem.F.slot_int_mul, by decide +kernel, fun P w A E s x dx i t Q hx h => PySem.W.fu_dI_mul hx h⟩, ⟨_, Z.irm⟩, Z.cls.s1⟩
  have O : RatO P w K mg base Γ.ct.R := ⟨R, R2, NB, Z.ne, ⟨fadd, fradd, _, _, Gadd, ok_radd Fradd Gadd Oadd badd, Oadd, badd, bradd⟩, ⟨fsub, frsub, _, _, Gsub, ok_rsub Frsub Gadd Oadd badd Gneg ⟨aneg, ineg⟩ bneg, Osub, bsub, brsub⟩, ⟨fmul, frmul, _, _, Gmul, ok_rmul Frmul Gmul Omul bmul, Omul, bmul, brmul⟩,
    ⟨feq, _, Geq, ⟨aeq, ieq⟩, beq, keq.kp⟩, ⟨flt, _, ok_lt Flt R Gin Gpa, ⟨alt, ilt⟩, Flt.binds (ps := ["self", "other"]) fun _ _ _ _ _ _ us hl => match us, hl with | [_, _], _ => rfl, klt.kp⟩, ⟨fle, _, ok_le Fle R Gin Gpa, ⟨ale, ile⟩, Fle.binds (ps := ["self", "other"]) fun _ _ _ _ _ _ us hl => match us, hl with | [_, _], _ => rfl, kle.kp⟩,
    ⟨fgt, _, ok_gt Fgt R Gin Gpa, ⟨agt, igt⟩, Fgt.binds (ps := ["self", "other"]) fun _ _ _ _ _ _ us hl => match us, hl with | [_, _], _ => rfl, kgt.kp⟩, ⟨fge, _, ok_ge Fge R Gin Gpa, ⟨age, ige⟩, Fge.binds (ps := ["self", "other"]) fun _ _ _ _ _ _ us hl => match us, hl with | [_, _], _ => rfl, kge.kp⟩,
    ⟨fneg, _, Gneg, ⟨aneg, ineg⟩, bneg, kneg.kp⟩, ⟨fabs, _, Gabs, ⟨aabs, iabs⟩, Fabs.binds (ps := ["self"]) fun _ _ _ _ _ _ us hl => match us, hl with | [_], _ => rfl, kabs.kp⟩, ⟨fboo, _, ok_bool Fboo B R, ⟨aboo, iboo⟩, Fboo.binds (ps := ["self"]) fun _ _ _ _ _ _ us hl => match us, hl with | [_], _ => rfl, kboo.kp⟩,
    ⟨fstr, _, (ok_str Fstr nstr R).calm, ⟨astr, istr⟩, Fstr.binds (ps := ["self"]) fun _ _ _ _ _ _ us hl => match us, hl with | [_], _ => rfl, kstr.kp⟩⟩
  exact ⟨⟨O, ⟨fI, _, ds, M⟩, g, by assumption⟩, ⟨frp, _, Trp⟩⟩
end He
end

/-! printed by heend.py -/
noncomputable section
namespace He
open PySem L2 Fu
open PyProof.Rows hiding St
open L2H (RoomH roomH_of)
def fldL (i : Nat) : List Str := ([["own_nodes", "own_fuses"], ["own_net", "own_lights", "own_times"]] : List (List Str)).getD i []
def erfL (i : Nat) : Option Str := ([none, some "value", some "part", some "value", some "index"] : List (Option Str)).getD i none
def gm (K : PySem.W.Frag) (R : Addr) (cs es : List Addr) : Gm := ⟨⟨K, R, fun i => cs.getD i 0, fldL, fun i => es.getD i 0, erfL⟩, fun _ => 0, none, fun _ => True, fun _ _ _ _ => trivial⟩
theorem all_mk {l : PySem.W.OpenLaw} {w : World} {K : PySem.W.Frag} {h : Heap} {mg : Str → Option Value} {fa : Addr} (X : K.In h) (G : h.Ns mainGlobals mg) (hfa : mg "law" = some (.ref fa))
    {C0 C1 CR E0 E1 E2 E3 E4 : Addr}
    (zaC0 : PySem.W.nsIn K mainGlobals "Net" = some (some (.ref C0)))
    (zaC1 : PySem.W.nsIn K mainGlobals "Fire" = some (some (.ref C1)))
    (zaR : PySem.W.nsIn K mainGlobals "Ratio" = some (some (.ref CR)))
    (zaE0 : PySem.W.nsIn K mainGlobals "NetError" = some (some (.ref E0)))
    (zaE1 : PySem.W.nsIn K mainGlobals "InvalidNumber" = some (some (.ref E1)))
    (zaE2 : PySem.W.nsIn K mainGlobals "InvalidNet" = some (some (.ref E2)))
    (zaE3 : PySem.W.nsIn K mainGlobals "InvalidPoint" = some (some (.ref E3)))
    (zaE4 : PySem.W.nsIn K mainGlobals "InvalidLights" = some (some (.ref E4)))
    (zo : ObjK K)
    (zR : RatZ K CR)
    (zsRR : PySem.W.subIn K (.ref CR) (.ref CR) = some true)
    (zc0 : ClsK K C0)
    (zn0 : NoAll K C0 ["own_nodes", "own_fuses"])
    (zsC0R : PySem.W.subIn K (.ref C0) (.ref CR) = some false)
    (zd0 : C0 ≠ CR)
    (zsRC0 : PySem.W.subIn K (.ref CR) (.ref C0) = some false)
    (zc1 : ClsK K C1)
    (zn1 : NoAll K C1 ["own_net", "own_lights", "own_times"])
    (zsC1R : PySem.W.subIn K (.ref C1) (.ref CR) = some false)
    (zd1 : C1 ≠ CR)
    (zsRC1 : PySem.W.subIn K (.ref CR) (.ref C1) = some false)
    (zx0 : ExcK K E0)
    (zx1 : ExcK K E1)
    (zx2 : ExcK K E2)
    (zx3 : ExcK K E3)
    (zx4 : ExcK K E4)
    (zE1 : ErrK K E1 "InvalidNumber.__init__" "value" sInvNum)
    (zE2 : ErrK K E2 "InvalidNet.__init__" "part" sInvalidNet_init)
    (zE3 : ErrK K E3 "InvalidPoint.__init__" "value" sInvalidPoint_init)
    (zs0_2 : PySem.W.subIn K (.ref E0) (.ref E2) = some false)
    (zs1_2 : PySem.W.subIn K (.ref E1) (.ref E2) = some false)
    (zs2_2 : PySem.W.subIn K (.ref E2) (.ref E2) = some true)
    (zs3_2 : PySem.W.subIn K (.ref E3) (.ref E2) = some false)
    (zs4_2 : PySem.W.subIn K (.ref E4) (.ref E2) = some false)
    (zs0_3 : PySem.W.subIn K (.ref E0) (.ref E3) = some false)
    (zs1_3 : PySem.W.subIn K (.ref E1) (.ref E3) = some false)
    (zs2_3 : PySem.W.subIn K (.ref E2) (.ref E3) = some false)
    (zs3_3 : PySem.W.subIn K (.ref E3) (.ref E3) = some true)
    (zs4_3 : PySem.W.subIn K (.ref E4) (.ref E3) = some false)
    (zk_InvalidNet_ValueError : PySem.W.subIn K (.ref E2) (.type "ValueError") = some true)
    (zk_InvalidPoint_ValueError : PySem.W.subIn K (.ref E3) (.type "ValueError") = some true)
    (zb_ValueError : PySem.W.nsIn K mainGlobals "ValueError" = some none)
    (zb_abs : PySem.W.nsIn K mainGlobals "abs" = some none)
    (zb_all : PySem.W.nsIn K mainGlobals "all" = some none)
    (zb_any : PySem.W.nsIn K mainGlobals "any" = some none)
    (zb_bool : PySem.W.nsIn K mainGlobals "bool" = some none)
    (zb_dict : PySem.W.nsIn K mainGlobals "dict" = some none)
    (zb_enumerate : PySem.W.nsIn K mainGlobals "enumerate" = some none)
    (zb_int : PySem.W.nsIn K mainGlobals "int" = some none)
    (zb_isinstance : PySem.W.nsIn K mainGlobals "isinstance" = some none)
    (zb_len : PySem.W.nsIn K mainGlobals "len" = some none)
    (zb_list : PySem.W.nsIn K mainGlobals "list" = some none)
    (zb_max : PySem.W.nsIn K mainGlobals "max" = some none)
    (zb_min : PySem.W.nsIn K mainGlobals "min" = some none)
    (zb_range : PySem.W.nsIn K mainGlobals "range" = some none)
    (zb_repr : PySem.W.nsIn K mainGlobals "repr" = some none)
    (zb_set : PySem.W.nsIn K mainGlobals "set" = some none)
    (zb_str : PySem.W.nsIn K mainGlobals "str" = some none)
    (zb_sum : PySem.W.nsIn K mainGlobals "sum" = some none)
    (zb_tuple : PySem.W.nsIn K mainGlobals "tuple" = some none)
    (zb_zip : PySem.W.nsIn K mainGlobals "zip" = some none)
    (zk_LETTERS : ∃ u, PySem.W.nsIn K mainGlobals "LETTERS" = some (some u) ∧ RelV (.str ⟨#[97, 98, 99, 100, 101, 102, 103, 104, 105, 106, 107, 108, 109, 110, 111, 112, 113, 114, 115, 116, 117, 118, 119, 120, 121, 122]⟩) u)
    (zk_MOST_LETTERS : ∃ u, PySem.W.nsIn K mainGlobals "MOST_LETTERS" = some (some u) ∧ RelV (.int 8) u)
    (zk_MOST_NODES : ∃ u, PySem.W.nsIn K mainGlobals "MOST_NODES" = some (some u) ∧ RelV (.int 30) u)
    (zk_MOST_FUSES : ∃ u, PySem.W.nsIn K mainGlobals "MOST_FUSES" = some (some u) ∧ RelV (.int 40) u)
    (zk_MOST_LIGHTS : ∃ u, PySem.W.nsIn K mainGlobals "MOST_LIGHTS" = some (some u) ∧ RelV (.int 20) u)
    (zd_is_name : DefK K "is_name" s_is_name)
    (zd_are_nodes : DefK K "are_nodes" s_are_nodes)
    (zd_is_integer : DefK K "is_integer" sIsInt)
    (zd_is_number : DefK K "is_number" sIsNum)
    (zd_ratio_of : DefK K "ratio_of" s_ratio_of)
    (zd_is_positive : DefK K "is_positive" s_is_positive)
    (zd_is_fuse : DefK K "is_fuse" s_is_fuse)
    (zi_Net__init : InitK K C0 "Net.__init__" sNet_init)
    (zp_Net_nodes : PropK K C0 "nodes" "Net.nodes" sNet_nodes)
    (zd_law_net_told : DefK K "_law_net_told" s_law_net_told)
    (zd_law_pool : DefK K "_law_pool" sPool)
    (zd_law_bad_fuses : DefK K "_law_bad_fuses" s_law_bad_fuses)
    (zd_law_take : DefK K "_law_take" sTake)
    (zm_Net__contains : MethK K C0 "__contains__" "Net.__contains__" sNet_contains)
    (zm_Net_is_point : MethK K C0 "is_point" "Net.is_point" sNet_is_point)
    (zm_Net_place_of : MethK K C0 "place_of" "Net.place_of" sNet_place_of)
    (zm_Net_point : MethK K C0 "point" "Net.point" sNet_point)
    (zd_time_at : DefK K "time_at" s_time_at)
    (zd_node_times : DefK K "node_times" s_node_times)
    (zm_Net_distance : MethK K C0 "distance" "Net.distance" sNet_distance)
    (zm_Fire_end : MethK K C1 "end" "Fire.end" sFire_end)
    (zi_Fire__init : InitK K C1 "Fire.__init__" sFire_init)
    (zd_reach : DefK K "reach" s_reach)
    (zd_law_point_told : DefK K "_law_point_told" s_law_point_told)
    (zlaw : DefK K "law" sLaw)
    : ∃ fd : FuncData, (∀ (s : Shared) (v : Value), BindsTo s fd ⟨[v], []⟩ [("_law_script", v)]) ∧ ∀ base : Heap, K.In base → base.Ns mainGlobals mg → FnG l.prog w K mg base CX0 17 fa fd ["_law_script"] (He.spLaw K) := by
  have nn : ∀ x : Str, PySem.W.nsIn K mainGlobals x = some none → mg x = none := fun x h => PySem.W.mg_none_of X G h
  obtain ⟨fa', alaw, _, _, kV, dc, pm, an, cd, ct, _, ll, cl, kl⟩ := zlaw
  have e := hfa.symm.trans (PySem.W.mg_of X G alaw)
  cases e
  refine ⟨PySem.W.fnOf "law" "law" (defArgs sLaw) (defBody sLaw) (defScope sLaw) .none kV dc pm an cd ct, fun s v => .of_eq rfl, fun base _ _ => ?_⟩
  have Flaw := fun_mk (st := sLaw) ll cl kl
  have cf : ∀ c, c < 2 → ClsF (gm K CR [C0, C1] [E0, E1, E2, E3, E4]) K c := fun c hc => match c, hc with | 0, _ => ⟨zc0.cl, zn0.at_, (show (fldL 0).Nodup by decide +kernel), (show (fldL 0).length < 1000 by decide +kernel)⟩ | 1, _ => ⟨zc1.cl, zn1.at_, (show (fldL 1).Nodup by decide +kernel), (show (fldL 1).length < 1000 by decide +kernel)⟩ | c + 2, h => absurd h (by omega)
  have Ex : ∀ c, c < 5 → ExcK K ((gm K CR [C0, C1] [E0, E1, E2, E3, E4]).ct.err c) := fun c hc => match c, hc with | 0, _ => zx0 | 1, _ => zx1 | 2, _ => zx2 | 3, _ => zx3 | 4, _ => zx4 | c + 5, h => absurd h (by omega)
  have e1 : En l.prog w K mg base (gm K CR [C0, C1] [E0, E1, E2, E3, E4]) 1 "InvalidNumber" "value" := en_of (c := 1) zE1 zx1 (PySem.W.mg_of X G zaE1) rfl (fun F E => ok_xinit F E rfl ⟨rfl, rfl, rfl, by decide +kernel, rfl, by decide +kernel, by decide +kernel⟩ (fun env => rfl) (.inl rfl) (.inl rfl) (by decide) (by decide)) (fun F => F.binds (ps := ["self", "value"]) fun _ _ _ _ _ _ us hl => match us, hl with | [_, _], _ => rfl)
  have e2 : En l.prog w K mg base (gm K CR [C0, C1] [E0, E1, E2, E3, E4]) 2 "InvalidNet" "part" := en_of (c := 2) zE2 zx2 (PySem.W.mg_of X G zaE2) rfl (fun F E => ok_xinit F E rfl ⟨rfl, rfl, rfl, by decide +kernel, rfl, by decide +kernel, by decide +kernel⟩ (fun env => rfl) (.inl rfl) (.inl rfl) (by decide) (by decide)) (fun F => F.binds (ps := ["self", "part"]) fun _ _ _ _ _ _ us hl => match us, hl with | [_, _], _ => rfl)
  have e3 : En l.prog w K mg base (gm K CR [C0, C1] [E0, E1, E2, E3, E4]) 3 "InvalidPoint" "value" := en_of (c := 3) zE3 zx3 (PySem.W.mg_of X G zaE3) rfl (fun F E => ok_xinit F E rfl ⟨rfl, rfl, rfl, by decide +kernel, rfl, by decide +kernel, by decide +kernel⟩ (fun env => rfl) (.inl rfl) (.inl rfl) (by decide) (by decide)) (fun F => F.binds (ps := ["self", "value"]) fun _ _ _ _ _ _ us hl => match us, hl with | [_, _], _ => rfl)
  obtain ⟨RN, PR⟩ := rat_of (Γ := (gm K CR [C0, C1] [E0, E1, E2, E3, E4])) (ci := 1) X G zR zo (PySem.W.mg_of X G zaR) e1 (nn _ zb_isinstance) (nn _ zb_int) (nn _ zb_bool) (nn _ zb_abs) (nn _ zb_str)
  have T : Tk l.prog w K mg base (gm K CR [C0, C1] [E0, E1, E2, E3, E4]) := {
    hK := rfl
    xa := rfl
    rp := PR
    R := RN
    rcl := zR.cls.cl
    na_own_top := zR.nT
    na_own_bottom := zR.nB
    ty := ⟨zR.cls.ci zo, fun c hc => match c, hc with | 0, _ => zc0.ci zo | 1, _ => zc1.ci zo | c + 2, h => absurd h (by omega)⟩
    i_int := isF_ty (by decide +kernel) ((by decide +kernel : kitB "NoneType" "int" = some false)) (fun _ => (by decide +kernel : kitB "bool" "int" = some true)) (fun _ => (by decide +kernel : kitB "int" "int" = some true)) (fun _ => (by decide +kernel : kitB "str" "int" = some false)) (fun _ => (by decide +kernel : kitB "list" "int" = some false)) (fun _ => (by decide +kernel : kitB "tuple" "int" = some false)) (fun _ _ => (by decide +kernel : kitB "dict" "int" = some false)) (fun _ => rfl) (fun _ _ => rfl) zR.cls.s1 (fun c hc => match c, hc with | 0, _ => zc0.s1 | 1, _ => zc1.s1 | c + 2, h => absurd h (by omega))
    i_bool := isF_ty (by decide +kernel) ((by decide +kernel : kitB "NoneType" "bool" = some false)) (fun _ => (by decide +kernel : kitB "bool" "bool" = some true)) (fun _ => (by decide +kernel : kitB "int" "bool" = some false)) (fun _ => (by decide +kernel : kitB "str" "bool" = some false)) (fun _ => (by decide +kernel : kitB "list" "bool" = some false)) (fun _ => (by decide +kernel : kitB "tuple" "bool" = some false)) (fun _ _ => (by decide +kernel : kitB "dict" "bool" = some false)) (fun _ => rfl) (fun _ _ => rfl) zR.cls.s2 (fun c hc => match c, hc with | 0, _ => zc0.s2 | 1, _ => zc1.s2 | c + 2, h => absurd h (by omega))
    i_str := isF_ty (by decide +kernel) ((by decide +kernel : kitB "NoneType" "str" = some false)) (fun _ => (by decide +kernel : kitB "bool" "str" = some false)) (fun _ => (by decide +kernel : kitB "int" "str" = some false)) (fun _ => (by decide +kernel : kitB "str" "str" = some true)) (fun _ => (by decide +kernel : kitB "list" "str" = some false)) (fun _ => (by decide +kernel : kitB "tuple" "str" = some false)) (fun _ _ => (by decide +kernel : kitB "dict" "str" = some false)) (fun _ => rfl) (fun _ _ => rfl) zR.cls.s3 (fun c hc => match c, hc with | 0, _ => zc0.s3 | 1, _ => zc1.s3 | c + 2, h => absurd h (by omega))
    i_list := isF_ty (by decide +kernel) ((by decide +kernel : kitB "NoneType" "list" = some false)) (fun _ => (by decide +kernel : kitB "bool" "list" = some false)) (fun _ => (by decide +kernel : kitB "int" "list" = some false)) (fun _ => (by decide +kernel : kitB "str" "list" = some false)) (fun _ => (by decide +kernel : kitB "list" "list" = some true)) (fun _ => (by decide +kernel : kitB "tuple" "list" = some false)) (fun _ _ => (by decide +kernel : kitB "dict" "list" = some false)) (fun _ => rfl) (fun _ _ => rfl) zR.cls.s4 (fun c hc => match c, hc with | 0, _ => zc0.s4 | 1, _ => zc1.s4 | c + 2, h => absurd h (by omega))
    i_tuple := isF_ty (by decide +kernel) ((by decide +kernel : kitB "NoneType" "tuple" = some false)) (fun _ => (by decide +kernel : kitB "bool" "tuple" = some false)) (fun _ => (by decide +kernel : kitB "int" "tuple" = some false)) (fun _ => (by decide +kernel : kitB "str" "tuple" = some false)) (fun _ => (by decide +kernel : kitB "list" "tuple" = some false)) (fun _ => (by decide +kernel : kitB "tuple" "tuple" = some true)) (fun _ _ => (by decide +kernel : kitB "dict" "tuple" = some false)) (fun _ => rfl) (fun _ _ => rfl) zR.cls.s5 (fun c hc => match c, hc with | 0, _ => zc0.s5 | 1, _ => zc1.s5 | c + 2, h => absurd h (by omega))
    i_dict := isF_ty (by decide +kernel) ((by decide +kernel : kitB "NoneType" "dict" = some false)) (fun _ => (by decide +kernel : kitB "bool" "dict" = some false)) (fun _ => (by decide +kernel : kitB "int" "dict" = some false)) (fun _ => (by decide +kernel : kitB "str" "dict" = some false)) (fun _ => (by decide +kernel : kitB "list" "dict" = some false)) (fun _ => (by decide +kernel : kitB "tuple" "dict" = some false)) (fun _ _ => (by decide +kernel : kitB "dict" "dict" = some true)) (fun _ => rfl) (fun _ _ => rfl) zR.cls.s6 (fun c hc => match c, hc with | 0, _ => zc0.s6 | 1, _ => zc1.s6 | c + 2, h => absurd h (by omega))
    i_Ratio := isF_own zR.cls.ic zR.cls.ty (fun T hT => by simp only [List.mem_cons, List.not_mem_nil, or_false] at hT; rcases hT with h | h | h | h | h | h | h <;> (subst h; with_unfolding_all rfl)) ⟨rfl, fun _ => rfl, fun _ => rfl, fun _ => rfl, fun _ => rfl, fun _ => rfl, fun _ _ => rfl⟩ (fun q => ⟨zsRR, fun _ => rfl⟩) (fun c l hc => match c, hc with | 0, _ => ⟨zsC0R, fun h => absurd h zd0⟩ | 1, _ => ⟨zsC1R, fun h => absurd h zd1⟩ | c + 2, h => absurd h (by omega))
    b_len := nn _ zb_len
    b_list := nn _ zb_list
    b_all := nn _ zb_all
    b_bool := nn _ zb_bool
    b_int := nn _ zb_int
    b_abs := nn _ zb_abs
    b_repr := nn _ zb_repr
    b_isinstance := nn _ zb_isinstance
    b_range := nn _ zb_range
    b_enumerate := nn _ zb_enumerate
    b_set := nn _ zb_set
    b_str := nn _ zb_str
    b_tuple := nn _ zb_tuple
    b_dict := nn _ zb_dict
    b_max := nn _ zb_max
    b_min := nn _ zb_min
    b_any := nn _ zb_any
    b_sum := nn _ zb_sum
    b_zip := nn _ zb_zip
    b_ValueError := nn _ zb_ValueError
    x_InvalidNet := xn_of (c := 2) zE2 zo Ex (PySem.W.mg_of X G zaE2) rfl (by decide) (fun c hc => match c, hc with | 0, _ => zs0_2 | 1, _ => zs1_2 | 2, _ => zs2_2 | 3, _ => zs3_2 | 4, _ => zs4_2 | c + 5, h => absurd h (by omega))
    x_InvalidPoint := xn_of (c := 3) zE3 zo Ex (PySem.W.mg_of X G zaE3) rfl (by decide) (fun c hc => match c, hc with | 0, _ => zs0_3 | 1, _ => zs1_3 | 2, _ => zs2_3 | 3, _ => zs3_3 | 4, _ => zs4_3 | c + 5, h => absurd h (by omega))
    k_InvalidNet_ValueError := kit_rt zk_InvalidNet_ValueError (by decide +kernel)
    k_InvalidPoint_ValueError := kit_rt zk_InvalidPoint_ValueError (by decide +kernel)
    c_LETTERS := (let ⟨u, h1, h2⟩ := zk_LETTERS; ⟨u, PySem.W.mg_of X G h1, h2⟩)
    c_MOST_LETTERS := (let ⟨u, h1, h2⟩ := zk_MOST_LETTERS; ⟨u, PySem.W.mg_of X G h1, h2⟩)
    c_MOST_NODES := (let ⟨u, h1, h2⟩ := zk_MOST_NODES; ⟨u, PySem.W.mg_of X G h1, h2⟩)
    c_MOST_FUSES := (let ⟨u, h1, h2⟩ := zk_MOST_FUSES; ⟨u, PySem.W.mg_of X G h1, h2⟩)
    c_MOST_LIGHTS := (let ⟨u, h1, h2⟩ := zk_MOST_LIGHTS; ⟨u, PySem.W.mg_of X G h1, h2⟩)
    e_InvalidNumber := e1
    e_InvalidNet := e2
    e_InvalidPoint := e3
    cf := cf
    fl0 := fun _ _ h => h
    fl1 := fun _ _ h => h }
  have Bu1 : Bu mg := ⟨nn _ zb_len, nn _ zb_abs, nn _ zb_int⟩
  have c_is_name : Dn l.prog w K mg base (gm K CR [C0, C1] [E0, E1, E2, E3, E4]) 10 "is_name" ["value"] v_is_name := dn_of X G zd_is_name (fun F => k_is_name T  F) (fun F => F.binds (ps := ["value"]) fun _ _ _ _ _ _ us hl => match us, hl with | [_], _ => rfl)
  have c_are_nodes : Dn l.prog w K mg base (gm K CR [C0, C1] [E0, E1, E2, E3, E4]) 11 "are_nodes" ["value"] v_are_nodes := dn_of X G zd_are_nodes (fun F => k_are_nodes T c_is_name F) (fun F => F.binds (ps := ["value"]) fun _ _ _ _ _ _ us hl => match us, hl with | [_], _ => rfl)
  have c_is_integer : Dn l.prog w K mg base (gm K CR [C0, C1] [E0, E1, E2, E3, E4]) 10 "is_integer" ["value"] v_is_integer := dn_of X G zd_is_integer (fun F => k_is_integer T  F) (fun F => F.binds (ps := ["value"]) fun _ _ _ _ _ _ us hl => match us, hl with | [_], _ => rfl)
  have c_is_number : Dn l.prog w K mg base (gm K CR [C0, C1] [E0, E1, E2, E3, E4]) 11 "is_number" ["value"] v_is_number := dn_of X G zd_is_number (fun F => k_is_number T c_is_integer F) (fun F => F.binds (ps := ["value"]) fun _ _ _ _ _ _ us hl => match us, hl with | [_], _ => rfl)
  have c_ratio_of : Dn l.prog w K mg base (gm K CR [C0, C1] [E0, E1, E2, E3, E4]) 12 "ratio_of" ["value"] v_ratio_of := dn_of X G zd_ratio_of (fun F => k_ratio_of T c_is_number F) (fun F => F.binds (ps := ["value"]) fun _ _ _ _ _ _ us hl => match us, hl with | [_], _ => rfl)
  have c_is_positive : Dn l.prog w K mg base (gm K CR [C0, C1] [E0, E1, E2, E3, E4]) 12 "is_positive" ["value"] v_is_positive := dn_of X G zd_is_positive (fun F => k_is_positive T c_is_number F) (fun F => F.binds (ps := ["value"]) fun _ _ _ _ _ _ us hl => match us, hl with | [_], _ => rfl)
  have c_is_fuse : Dn l.prog w K mg base (gm K CR [C0, C1] [E0, E1, E2, E3, E4]) 13 "is_fuse" ["value", "nodes"] v_is_fuse := dn_of X G zd_is_fuse (fun F => k_is_fuse T c_is_name c_is_positive F) (fun F => F.binds (ps := ["value", "nodes"]) fun _ _ _ _ _ _ us hl => match us, hl with | [_, _], _ => rfl)
  have c_Net__init : Kn l.prog w K mg base (gm K CR [C0, C1] [E0, E1, E2, E3, E4]) 14 0 "Net" ["self", "nodes", "fuses"] v_Net__init := kn_of (c := 0) zi_Net__init (PySem.W.mg_of X G zaC0) (fun F => k_Net__init T c_are_nodes c_ratio_of c_is_fuse F) (fun F => F.binds (ps := ["self", "nodes", "fuses"]) fun _ _ _ _ _ _ us hl => match us, hl with | [_, _, _], _ => rfl)
  have c_Net_nodes : Pn l.prog w K mg base (gm K CR [C0, C1] [E0, E1, E2, E3, E4]) 10 0 "nodes" v_Net_nodes := pn_of (c := 0) zp_Net_nodes (cf 0 (by decide)) (fun F => k_Net_nodes T  F) (fun F => F.binds (ps := ["self"]) fun _ _ _ _ _ _ us hl => match us, hl with | [_], _ => rfl)
  have c_law_net_told : Dn l.prog w K mg base (gm K CR [C0, C1] [E0, E1, E2, E3, E4]) 16 "_law_net_told" ["_law_nodes", "_law_fuses"] v_law_net_told := dn_of X G zd_law_net_told (fun F => k_law_net_told T c_Net__init F) (fun F => F.binds (ps := ["_law_nodes", "_law_fuses"]) fun _ _ _ _ _ _ us hl => match us, hl with | [_, _], _ => rfl)
  have c_law_pool : Dn l.prog w K mg base (gm K CR [C0, C1] [E0, E1, E2, E3, E4]) 1 "_law_pool" ["_law_script", "_law_k"] vPool := dn_of X G zd_law_pool (fun F => fn_pool rfl (ok_pool F Bu1)) (fun F => F.binds (ps := ["_law_script", "_law_k"]) fun _ _ _ _ _ _ us hl => match us, hl with | [_, _], _ => rfl)
  have c_law_bad_fuses : Dn l.prog w K mg base (gm K CR [C0, C1] [E0, E1, E2, E3, E4]) 10 "_law_bad_fuses" [] v_law_bad_fuses := dn_of X G zd_law_bad_fuses (fun F => k_law_bad_fuses T  F) (fun F => F.binds (ps := []) fun _ _ _ _ _ _ us hl => match us, hl with | [], _ => rfl)
  have c_law_take : Dn l.prog w K mg base (gm K CR [C0, C1] [E0, E1, E2, E3, E4]) 1 "_law_take" ["_law_pool_here", "_law_many"] vTake := dn_of X G zd_law_take (fun F => fn_take (ok_take F)) (fun F => F.binds (ps := ["_law_pool_here", "_law_many"]) fun _ _ _ _ _ _ us hl => match us, hl with | [_, _], _ => rfl)
  have c_Net__contains : An l.prog w K mg base (gm K CR [C0, C1] [E0, E1, E2, E3, E4]) 11 0 "__contains__" ["self", "value"] v_Net__contains := an_of (c := 0) zm_Net__contains (fun F => k_Net__contains T c_is_name F) (fun F => F.binds (ps := ["self", "value"]) fun _ _ _ _ _ _ us hl => match us, hl with | [_, _], _ => rfl)
  have c_Net_is_point : Mn l.prog w K mg base (gm K CR [C0, C1] [E0, E1, E2, E3, E4]) 12 0 "is_point" ["self", "value"] v_Net_is_point := mn_of (c := 0) zm_Net_is_point (cf 0 (by decide)) (show ("is_point" : Str) ∉ fldL 0 by decide +kernel) (fun F => k_Net_is_point T c_is_integer c_is_number c_Net__contains F) (fun F => F.binds (ps := ["self", "value"]) fun _ _ _ _ _ _ us hl => match us, hl with | [_, _], _ => rfl)
  have c_Net_place_of : Mn l.prog w K mg base (gm K CR [C0, C1] [E0, E1, E2, E3, E4]) 10 0 "place_of" ["self", "fuse", "distance"] v_Net_place_of := mn_of (c := 0) zm_Net_place_of (cf 0 (by decide)) (show ("place_of" : Str) ∉ fldL 0 by decide +kernel) (fun F => k_Net_place_of T  F) (fun F => F.binds (ps := ["self", "fuse", "distance"]) fun _ _ _ _ _ _ us hl => match us, hl with | [_, _, _], _ => rfl)
  have c_Net_point : Mn l.prog w K mg base (gm K CR [C0, C1] [E0, E1, E2, E3, E4]) 13 0 "point" ["self", "value"] v_Net_point := mn_of (c := 0) zm_Net_point (cf 0 (by decide)) (show ("point" : Str) ∉ fldL 0 by decide +kernel) (fun F => k_Net_point T c_ratio_of c_Net_is_point c_Net_place_of F) (fun F => F.binds (ps := ["self", "value"]) fun _ _ _ _ _ _ us hl => match us, hl with | [_, _], _ => rfl)
  have c_time_at : Dn l.prog w K mg base (gm K CR [C0, C1] [E0, E1, E2, E3, E4]) 1 "time_at" ["net", "lights", "times", "point"] v_time_at := dn_of X G zd_time_at (fun F => fn_bad) (fun F => F.binds (ps := ["net", "lights", "times", "point"]) fun _ _ _ _ _ _ us hl => match us, hl with | [_, _, _, _], _ => rfl)
  have c_node_times : Dn l.prog w K mg base (gm K CR [C0, C1] [E0, E1, E2, E3, E4]) 1 "node_times" ["net", "lights"] v_node_times := dn_of X G zd_node_times (fun F => fn_bad) (fun F => F.binds (ps := ["net", "lights"]) fun _ _ _ _ _ _ us hl => match us, hl with | [_, _], _ => rfl)
  have c_Net_distance : Mn l.prog w K mg base (gm K CR [C0, C1] [E0, E1, E2, E3, E4]) 14 0 "distance" ["self", "one", "other"] v_Net_distance := mn_of (c := 0) zm_Net_distance (cf 0 (by decide)) (show ("distance" : Str) ∉ fldL 0 by decide +kernel) (fun F => k_Net_distance T c_Net_point c_time_at c_node_times F) (fun F => F.binds (ps := ["self", "one", "other"]) fun _ _ _ _ _ _ us hl => match us, hl with | [_, _, _], _ => rfl)
  have c_Fire_end : Mn l.prog w K mg base (gm K CR [C0, C1] [E0, E1, E2, E3, E4]) 1 1 "end" ["self"] v_Fire_end := mn_of (c := 1) zm_Fire_end (cf 1 (by decide)) (show ("end" : Str) ∉ fldL 1 by decide +kernel) (fun F => fn_bad) (fun F => F.binds (ps := ["self"]) fun _ _ _ _ _ _ us hl => match us, hl with | [_], _ => rfl)
  have c_Fire__init : Kn l.prog w K mg base (gm K CR [C0, C1] [E0, E1, E2, E3, E4]) 1 1 "Fire" ["self", "net", "lights"] v_Fire__init := kn_of (c := 1) zi_Fire__init (PySem.W.mg_of X G zaC1) (fun F => fn_bad) (fun F => F.binds (ps := ["self", "net", "lights"]) fun _ _ _ _ _ _ us hl => match us, hl with | [_, _, _], _ => rfl)
  have c_reach : Dn l.prog w K mg base (gm K CR [C0, C1] [E0, E1, E2, E3, E4]) 14 "reach" ["net", "point"] v_reach := dn_of X G zd_reach (fun F => k_reach T c_Net_point c_Fire_end c_Fire__init F) (fun F => F.binds (ps := ["net", "point"]) fun _ _ _ _ _ _ us hl => match us, hl with | [_, _], _ => rfl)
  have c_law_point_told : Dn l.prog w K mg base (gm K CR [C0, C1] [E0, E1, E2, E3, E4]) 15 "_law_point_told" ["_law_door", "_law_net", "_law_value"] v_law_point_told := dn_of X G zd_law_point_told (fun F => k_law_point_told T c_Net_point c_Net_distance c_reach F) (fun F => F.binds (ps := ["_law_door", "_law_net", "_law_value"]) fun _ _ _ _ _ _ us hl => match us, hl with | [_, _, _], _ => rfl)
  exact fn_law (k_law T c_Net__init c_Net_nodes c_law_net_told c_law_pool c_law_bad_fuses c_law_take c_Net_is_point c_law_point_told Flaw) rfl (fun _ => trivial) go
end He
end

open PySem PySem.W PyProof.Rows
set_option maxRecDepth 100000 in
set_option maxHeartbeats 0 in
theorem PySem.Challenge.cw_fusenets_k14_nets_and_points_refused_holds : PySem.Challenge.rw_fusenets_k14_nets_and_points_refused.Holds := by
  w_on; o_law; k_head; (case hw => w_witness2)
  k_fill
  refine Fu.walk_G (l := PySem.Challenge.rw_fusenets_k14_nets_and_points_refused) (n := 63) (k := 17) (sp := He.spLaw) (x := "_law_script") rfl (by decide) rfl ⟨⟨rfl, by decide, by decide⟩, rfl⟩ (fun w h Y => PySem.W.kIn_of Y) ?F (fun K H a ns hl _ hS => ⟨a, ns, rfl, hS, hl, fun _ => rfl⟩)
  case F =>
    intro w mg fa h KX G hmg
    refine' He.all_mk KX G hmg ?zaC0 ?zaC1 ?zaR ?zaE0 ?zaE1 ?zaE2 ?zaE3 ?zaE4 ?zo ?zR ?zsRR ?zc0 ?zn0 ?zsC0R ?zd0 ?zsRC0 ?zc1 ?zn1 ?zsC1R ?zd1 ?zsRC1 ?zx0 ?zx1 ?zx2 ?zx3 ?zx4 ?zE1 ?zE2 ?zE3 ?zs0_2 ?zs1_2 ?zs2_2 ?zs3_2 ?zs4_2 ?zs0_3 ?zs1_3 ?zs2_3 ?zs3_3 ?zs4_3 ?zk_InvalidNet_ValueError ?zk_InvalidPoint_ValueError ?zb_ValueError ?zb_abs ?zb_all ?zb_any ?zb_bool ?zb_dict ?zb_enumerate ?zb_int ?zb_isinstance ?zb_len ?zb_list ?zb_max ?zb_min ?zb_range ?zb_repr ?zb_set ?zb_str ?zb_sum ?zb_tuple ?zb_zip ?zk_LETTERS ?zk_MOST_LETTERS ?zk_MOST_NODES ?zk_MOST_FUSES ?zk_MOST_LIGHTS ?zd_is_name ?zd_are_nodes ?zd_is_integer ?zd_is_number ?zd_ratio_of ?zd_is_positive ?zd_is_fuse ?zi_Net__init ?zp_Net_nodes ?zd_law_net_told ?zd_law_pool ?zd_law_bad_fuses ?zd_law_take ?zm_Net__contains ?zm_Net_is_point ?zm_Net_place_of ?zm_Net_point ?zd_time_at ?zd_node_times ?zm_Net_distance ?zm_Fire_end ?zi_Fire__init ?zd_reach ?zd_law_point_told ?zlaw
    (case zaC0 => first | k_is | rfl)
    (case zaC1 => first | k_is | rfl)
    (case zaR => first | k_is | rfl)
    (case zaE0 => first | k_is | rfl)
    (case zaE1 => first | k_is | rfl)
    (case zaE2 => first | k_is | rfl)
    (case zaE3 => first | k_is | rfl)
    (case zaE4 => first | k_is | rfl)
    (case zo => exact ⟨by k_is, by k_is⟩)
    (case zR => exact ⟨⟨by k_is, by k_is, by k_is, by k_is, by k_is, by k_is, by k_is, by k_is, by k_is, by k_is, by k_is, by k_is, by k_is, by k_is⟩, by k_is, by k_is, by k_is, by k_is, by k_is, by k_is, by k_is, by k_is, by k_is, by k_is, by k_is, by k_is, by k_is, by k_is, by k_is, by k_is, by k_is, by k_is, by k_is, ⟨_, _, _, _, _, _, _, _, _, _, _, _, _, _, _, _, by k_is, by k_is, by k_is, by k_is, by k_is, by k_is⟩, ⟨_, by k_is, by k_is, ⟨_, _, _, _, _, _, _, _, _, by k_is, by k_is, by k_is⟩⟩, ⟨_, by k_is, by k_is, ⟨_, _, _, _, _, _, _, _, _, by k_is, by k_is, by k_is⟩⟩, ⟨_, by k_is, by k_is, ⟨_, _, _, _, _, _, _, _, _, by k_is, by k_is, by k_is⟩⟩, ⟨_, by k_is, by k_is, ⟨_, _, _, _, _, _, _, _, _, by k_is, by k_is, by k_is⟩⟩, ⟨_, by k_is, by k_is, ⟨_, _, _, _, _, _, _, _, _, by k_is, by k_is, by k_is⟩⟩, ⟨_, by k_is, by k_is, ⟨_, _, _, _, _, _, _, _, _, by k_is, by k_is, by k_is⟩⟩, ⟨_, by k_is, by k_is, ⟨_, _, _, _, _, _, _, _, _, by k_is, by k_is, by k_is⟩⟩, ⟨_, by k_is, by k_is, ⟨_, _, _, _, _, _, _, _, _, by k_is, by k_is, by k_is⟩⟩, ⟨_, by k_is, by k_is, ⟨_, _, _, _, _, _, _, _, _, by k_is, by k_is, by k_is⟩⟩, ⟨_, by k_is, by k_is, ⟨_, _, _, _, _, _, _, _, _, by k_is, by k_is, by k_is⟩⟩, ⟨_, by k_is, by k_is, ⟨_, _, _, _, _, _, _, _, _, by k_is, by k_is, by k_is⟩⟩, ⟨_, by k_is, by k_is, ⟨_, _, _, _, _, _, _, _, _, by k_is, by k_is, by k_is⟩⟩, ⟨_, by k_is, by k_is, ⟨_, _, _, _, _, _, _, _, _, by k_is, by k_is, by k_is⟩⟩, ⟨_, by k_is, by k_is, ⟨_, _, _, _, _, _, _, _, _, by k_is, by k_is, by k_is⟩⟩, ⟨_, by k_is, by k_is, ⟨_, _, _, _, _, _, _, _, _, by k_is, by k_is, by k_is⟩⟩, ⟨_, by k_is, by k_is, ⟨_, _, _, _, _, _, _, _, _, by k_is, by k_is, by k_is⟩⟩, ⟨_, by k_is, ⟨_, _, _, _, _, _, _, _, _, by k_is, by k_is, by k_is⟩⟩, ⟨_, by k_is, ⟨_, _, _, _, _, _, _, _, _, by k_is, by k_is, by k_is⟩⟩, ⟨_, by k_is, ⟨_, _, _, _, _, _, _, _, _, by k_is, by k_is, by k_is⟩⟩, ⟨_, by k_is, ⟨_, _, _, _, _, _, _, _, _, by k_is, by k_is, by k_is⟩⟩⟩)
    (case zsRR => first | k_is | rfl)
    (case zc0 => exact ⟨by k_is, by k_is, by k_is, by k_is, by k_is, by k_is, by k_is, by k_is, by k_is, by k_is, by k_is, by k_is, by k_is, by k_is⟩)
    (case zn0 => exact ⟨by k_is, by k_is, trivial⟩)
    (case zsC0R => first | k_is | rfl)
    (case zd0 => decide)
    (case zsRC0 => first | k_is | rfl)
    (case zc1 => exact ⟨by k_is, by k_is, by k_is, by k_is, by k_is, by k_is, by k_is, by k_is, by k_is, by k_is, by k_is, by k_is, by k_is, by k_is⟩)
    (case zn1 => exact ⟨by k_is, by k_is, by k_is, trivial⟩)
    (case zsC1R => first | k_is | rfl)
    (case zd1 => decide)
    (case zsRC1 => first | k_is | rfl)
    (case zx0 => exact ⟨by k_is, by k_is, by k_is⟩)
    (case zx1 => exact ⟨by k_is, by k_is, by k_is⟩)
    (case zx2 => exact ⟨by k_is, by k_is, by k_is⟩)
    (case zx3 => exact ⟨by k_is, by k_is, by k_is⟩)
    (case zx4 => exact ⟨by k_is, by k_is, by k_is⟩)
    (case zE1 => exact ⟨⟨_, _, _, _, _, _, _, _, _, _, _, _, _, _, _, by k_is, by rfl⟩, by k_is, by k_is, by k_is, by k_is, by k_is, by k_is, by k_is, by k_is, by k_is, ⟨_, by k_is, by k_is, ⟨_, _, _, _, _, _, _, _, _, by k_is, by k_is, by k_is⟩⟩⟩)
    (case zE2 => exact ⟨⟨_, _, _, _, _, _, _, _, _, _, _, _, _, _, _, by k_is, by rfl⟩, by k_is, by k_is, by k_is, by k_is, by k_is, by k_is, by k_is, by k_is, by k_is, ⟨_, by k_is, by k_is, ⟨_, _, _, _, _, _, _, _, _, by k_is, by k_is, by k_is⟩⟩⟩)
    (case zE3 => exact ⟨⟨_, _, _, _, _, _, _, _, _, _, _, _, _, _, _, by k_is, by rfl⟩, by k_is, by k_is, by k_is, by k_is, by k_is, by k_is, by k_is, by k_is, by k_is, ⟨_, by k_is, by k_is, ⟨_, _, _, _, _, _, _, _, _, by k_is, by k_is, by k_is⟩⟩⟩)
    (case zs0_2 => first | k_is | rfl)
    (case zs1_2 => first | k_is | rfl)
    (case zs2_2 => first | k_is | rfl)
    (case zs3_2 => first | k_is | rfl)
    (case zs4_2 => first | k_is | rfl)
    (case zs0_3 => first | k_is | rfl)
    (case zs1_3 => first | k_is | rfl)
    (case zs2_3 => first | k_is | rfl)
    (case zs3_3 => first | k_is | rfl)
    (case zs4_3 => first | k_is | rfl)
    (case zk_InvalidNet_ValueError => first | k_is | rfl)
    (case zk_InvalidPoint_ValueError => first | k_is | rfl)
    (case zb_ValueError => first | k_is | rfl)
    (case zb_abs => first | k_is | rfl)
    (case zb_all => first | k_is | rfl)
    (case zb_any => first | k_is | rfl)
    (case zb_bool => first | k_is | rfl)
    (case zb_dict => first | k_is | rfl)
    (case zb_enumerate => first | k_is | rfl)
    (case zb_int => first | k_is | rfl)
    (case zb_isinstance => first | k_is | rfl)
    (case zb_len => first | k_is | rfl)
    (case zb_list => first | k_is | rfl)
    (case zb_max => first | k_is | rfl)
    (case zb_min => first | k_is | rfl)
    (case zb_range => first | k_is | rfl)
    (case zb_repr => first | k_is | rfl)
    (case zb_set => first | k_is | rfl)
    (case zb_str => first | k_is | rfl)
    (case zb_sum => first | k_is | rfl)
    (case zb_tuple => first | k_is | rfl)
    (case zb_zip => first | k_is | rfl)
    (case zk_LETTERS => exact ⟨_, by k_is, ⟨_, by first | rfl | decide +kernel⟩⟩)
    (case zk_MOST_LETTERS => exact ⟨_, by k_is, ⟨_, by first | rfl | decide +kernel⟩⟩)
    (case zk_MOST_NODES => exact ⟨_, by k_is, ⟨_, by first | rfl | decide +kernel⟩⟩)
    (case zk_MOST_FUSES => exact ⟨_, by k_is, ⟨_, by first | rfl | decide +kernel⟩⟩)
    (case zk_MOST_LIGHTS => exact ⟨_, by k_is, ⟨_, by first | rfl | decide +kernel⟩⟩)
    (case zd_is_name => exact ⟨_, by k_is, ⟨_, _, _, _, _, _, _, _, _, by k_is, by k_is, by k_is⟩⟩)
    (case zd_are_nodes => exact ⟨_, by k_is, ⟨_, _, _, _, _, _, _, _, _, by k_is, by k_is, by k_is⟩⟩)
    (case zd_is_integer => exact ⟨_, by k_is, ⟨_, _, _, _, _, _, _, _, _, by k_is, by k_is, by k_is⟩⟩)
    (case zd_is_number => exact ⟨_, by k_is, ⟨_, _, _, _, _, _, _, _, _, by k_is, by k_is, by k_is⟩⟩)
    (case zd_ratio_of => exact ⟨_, by k_is, ⟨_, _, _, _, _, _, _, _, _, by k_is, by k_is, by k_is⟩⟩)
    (case zd_is_positive => exact ⟨_, by k_is, ⟨_, _, _, _, _, _, _, _, _, by k_is, by k_is, by k_is⟩⟩)
    (case zd_is_fuse => exact ⟨_, by k_is, ⟨_, _, _, _, _, _, _, _, _, by k_is, by k_is, by k_is⟩⟩)
    (case zi_Net__init => exact ⟨by k_is, by k_is, ⟨_, by k_is, by k_is, ⟨_, _, _, _, _, _, _, _, _, by k_is, by k_is, by k_is⟩⟩⟩)
    (case zp_Net_nodes => exact ⟨_, _, _, by k_is, by k_is, by k_is, by k_is, ⟨_, _, _, _, _, _, _, _, _, by k_is, by k_is, by k_is⟩⟩)
    (case zd_law_net_told => exact ⟨_, by k_is, ⟨_, _, _, _, _, _, _, _, _, by k_is, by k_is, by k_is⟩⟩)
    (case zd_law_pool => exact ⟨_, by k_is, ⟨_, _, _, _, _, _, _, _, _, by k_is, by k_is, by k_is⟩⟩)
    (case zd_law_bad_fuses => exact ⟨_, by k_is, ⟨_, _, _, _, _, _, _, _, _, by k_is, by k_is, by k_is⟩⟩)
    (case zd_law_take => exact ⟨_, by k_is, ⟨_, _, _, _, _, _, _, _, _, by k_is, by k_is, by k_is⟩⟩)
    (case zm_Net__contains => exact ⟨_, by k_is, by k_is, ⟨_, _, _, _, _, _, _, _, _, by k_is, by k_is, by k_is⟩⟩)
    (case zm_Net_is_point => exact ⟨_, by k_is, by k_is, ⟨_, _, _, _, _, _, _, _, _, by k_is, by k_is, by k_is⟩⟩)
    (case zm_Net_place_of => exact ⟨_, by k_is, by k_is, ⟨_, _, _, _, _, _, _, _, _, by k_is, by k_is, by k_is⟩⟩)
    (case zm_Net_point => exact ⟨_, by k_is, by k_is, ⟨_, _, _, _, _, _, _, _, _, by k_is, by k_is, by k_is⟩⟩)
    (case zd_time_at => exact ⟨_, by k_is, ⟨_, _, _, _, _, _, _, _, _, by k_is, by k_is, by k_is⟩⟩)
    (case zd_node_times => exact ⟨_, by k_is, ⟨_, _, _, _, _, _, _, _, _, by k_is, by k_is, by k_is⟩⟩)
    (case zm_Net_distance => exact ⟨_, by k_is, by k_is, ⟨_, _, _, _, _, _, _, _, _, by k_is, by k_is, by k_is⟩⟩)
    (case zm_Fire_end => exact ⟨_, by k_is, by k_is, ⟨_, _, _, _, _, _, _, _, _, by k_is, by k_is, by k_is⟩⟩)
    (case zi_Fire__init => exact ⟨by k_is, by k_is, ⟨_, by k_is, by k_is, ⟨_, _, _, _, _, _, _, _, _, by k_is, by k_is, by k_is⟩⟩⟩)
    (case zd_reach => exact ⟨_, by k_is, ⟨_, _, _, _, _, _, _, _, _, by k_is, by k_is, by k_is⟩⟩)
    (case zd_law_point_told => exact ⟨_, by k_is, ⟨_, _, _, _, _, _, _, _, _, by k_is, by k_is, by k_is⟩⟩)
    (case zlaw => exact ⟨_, by k_is, ⟨_, _, _, _, _, _, _, _, _, by k_is, by k_is, by k_is⟩⟩)
