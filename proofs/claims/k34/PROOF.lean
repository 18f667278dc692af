import PyProof.Rows.All
import Wide.All
import OpenK.AllK
import Wide.FinOn
import PyProof.EqAt
import PyProof.EqKinds
import PyProof.TupleCall
import KE.GoesEnum
import HandS.ForMost
import HandS.Exc
import HandS.TryOnly
import HandS.TryMany
import HandS.ExcOwn
import HandS.WordsExc
import HandS.Zip
import HandS.TupAny
import HandS.TupMul
import HandS.Style
import HandS.NoneIn
import HandS.IsInst
import HandS.Small
import HandS.Walk
import HandS.Defaults
import HandS.More
import HandS.Head0
import HandS.Head1
import HandS.Head2
import HandS.HeadEnd
import HandS.HeadHook1
import HandS.HeadHook2
import HandS.HeadHook3
import HandS.HeadHook4
import PySem.Challenge.RW_fourstrokes_k34_whole_scenes_led_step_by
import KE.KStateDown
import Lean
set_option Elab.async false
set_option linter.all false
set_option maxRecDepth 100000
set_option maxHeartbeats 4000000
/-! K0: the text by places; a def's promise with what a caller needs of it; a few rules of our own. -/
namespace K34
open PySem PySem.Spec PyProof.Rows L2
abbrev Pg : Program := PySem.Challenge.pw_fourstrokes_k34_whole_scenes_led_step_by
def top (i : Nat) : Stmt := Pg.main.body.getD i (.Pass ⟨0, 0, 0, 0⟩)

/-! ### a def (or a method) as the top leaves it -/
/-- the def st stands at the module's name x -/
def DefAt (K : PySem.W.Frag) (mg : Str → Option Value) (x : Str) (st : Stmt) : Prop :=
  ∃ (f : Addr) (fd : FuncData), FunD K x x (defArgs st) (defBody st) (defScope st) [] [] f fd ∧ mg x = some (.ref f)
/-- the method m (qualified name q) of the class at C -/
def MetAt (K : PySem.W.Frag) (C : Addr) (m q : Str) (st : Stmt) : Prop :=
  ∃ (f : Addr) (fd : FuncData), FunD K m q (defArgs st) (defBody st) (defScope st) [] [] f fd ∧ Meth K C m f
/-- a def's promise, as its callers use it -/
structure OkF (P : Program) (w : World) (K : PySem.W.Frag) (mg : Str → Option Value) (base : Heap) (CX : CXT) (k : Nat) (x : Str) (ps : List Str) (sp : Sp) : Prop where
  ex : ∃ (f : Addr) (fd : FuncData), FnOk P w K mg base CX k f fd ps sp ∧ Binds K fd ps [] ∧ PySem.W.keepIn K (.ref f) = true ∧ mg x = some (.ref f)
structure OkM (P : Program) (w : World) (K : PySem.W.Frag) (mg : Str → Option Value) (base : Heap) (CX : CXT) (k : Nat) (C : Addr) (m : Str) (ps : List Str) (sp : Sp) : Prop where
  ex : ∃ (f : Addr) (fd : FuncData), FnOk P w K mg base CX k f fd ps sp ∧ Binds K fd ps [] ∧ Meth K C m f
/-- a class, its __init__'s promise -/
structure OkC (P : Program) (w : World) (K : PySem.W.Frag) (mg : Str → Option Value) (base : Heap) (CX : CXT) (k : Nat) (x : Str) (C : Addr) (ps : List Str) (sp : Sp) : Prop where
  ex : ∃ (f : Addr) (fd : FuncData), FnOk P w K mg base CX k f fd ps sp ∧ Binds K fd ps [] ∧ Mk K C f ∧ mg x = some (.ref C)
section
variable {P : Program} {w : World} {K : PySem.W.Frag} {mg : Str → Option Value} {base : Heap} {CX : CXT} {j k : Nat} {x : Str} {ps : List Str} {sp sp' : Sp} {C : Addr} {m : Str}
theorem OkF.mono (F : OkF P w K mg base CX j x ps sp) (h : j ≤ k) : OkF P w K mg base CX k x ps sp :=
  let ⟨f, fd, a, b, c, d⟩ := F.ex; ⟨f, fd, a.mono h, b, c, d⟩
theorem OkF.imp (F : OkF P w K mg base CX k x ps sp) (h : ∀ vs H Q E, sp' vs H Q E → sp vs H Q E) : OkF P w K mg base CX k x ps sp' :=
  let ⟨f, fd, a, b, c, d⟩ := F.ex; ⟨f, fd, a.imp h, b, c, d⟩
theorem OkM.imp (F : OkM P w K mg base CX k C m ps sp) (h : ∀ vs H Q E, sp' vs H Q E → sp vs H Q E) : OkM P w K mg base CX k C m ps sp' :=
  let ⟨f, fd, a, b, c⟩ := F.ex; ⟨f, fd, a.imp h, b, c⟩
/-- how the arguments bind: «fun _ _ _ _ _ _ us hl => match us, hl with | [_], _ => rfl» -/
def BindsBy (x q : Str) (st : Stmt) (ps : List Str) : Prop :=
  ∀ (kV doc pm : Value) (an : Option Addr) (cdv ct : Value) (us : List Value), us.length = ps.length → bindArgs (PySem.W.fnOf x q (defArgs st) (defBody st) (defScope st) .none kV doc pm an cdv ct) ⟨us, []⟩ = pure (ps.zip us)
/-- a def that lets nothing out -/
theorem DefAt.ok {st : Stmt} {N : List Str} (D : DefAt K mg x st) (S : FnScope N ps (defScope st)) (B : BindsBy x x st ps) (len : ∀ vs H Q E, sp vs H Q E → vs.length = ps.length)
    (hbody : ∀ (f : Addr) (cdv : Value) (A : Around) (outer : List Env) (s : Shared) (H : Hp) (vs : List V) (Q : VK) (E : XK), Room k (A.deeper (envOfC x (defScope st) s.heap.objs.size f cdv)) → sp vs H Q E →
      ∃ t, PSs (cxOf CX0 P w K mg base N x (defScope st) f cdv A outer s H E).nox (defBody st) t ∧ t { nx := fun _ H' => Q .non H', rt := Q } (start N vs) H) : OkF P w K mg base CX0 (k + 1) x ps sp := by
  obtain ⟨f, fd, F, hm⟩ := D
  refine ⟨f, fd, F.ok S len fun cdv A outer s H vs Q E hr hsp => ?_, F.bindsN B, F.kp, hm⟩
  obtain ⟨t, h, q⟩ := hbody f cdv A outer s H vs Q E hr hsp
  exact ⟨t, h.nox, q⟩
theorem MetAt.ok {st : Stmt} {N : List Str} {q : Str} (D : MetAt K C m q st) (S : FnScope N ps (defScope st)) (B : BindsBy m q st ps) (len : ∀ vs H Q E, sp vs H Q E → vs.length = ps.length)
    (hbody : ∀ (f : Addr) (cdv : Value) (A : Around) (outer : List Env) (s : Shared) (H : Hp) (vs : List V) (Q : VK) (E : XK), Room k (A.deeper (envOfC q (defScope st) s.heap.objs.size f cdv)) → sp vs H Q E →
      ∃ t, PSs (cxOf CX0 P w K mg base N q (defScope st) f cdv A outer s H E).nox (defBody st) t ∧ t { nx := fun _ H' => Q .non H', rt := Q } (start N vs) H) : OkM P w K mg base CX0 (k + 1) C m ps sp := by
  obtain ⟨f, fd, F, hm⟩ := D
  refine ⟨f, fd, F.ok S len fun cdv A outer s H vs Q E hr hsp => ?_, F.bindsN B, hm⟩
  obtain ⟨t, h, q⟩ := hbody f cdv A outer s H vs Q E hr hsp
  exact ⟨t, h.nox, q⟩
/-- a def, a method that may raise -/
theorem DefAt.okX {st : Stmt} {N : List Str} (D : DefAt K mg x st) (S : FnScope N ps (defScope st)) (B : BindsBy x x st ps) (len : ∀ vs H Q E, sp vs H Q E → vs.length = ps.length)
    (hbody : ∀ (f : Addr) (cdv : Value) (A : Around) (outer : List Env) (s : Shared) (H : Hp) (vs : List V) (Q : VK) (E : XK), Room k (A.deeper (envOfC x (defScope st) s.heap.objs.size f cdv)) → sp vs H Q E →
      ∃ t, PSs (cxOf (L2.CX P w) P w K mg base N x (defScope st) f cdv A outer s H E) (defBody st) t ∧ t { nx := fun _ H' => Q .non H', rt := Q } (start N vs) H) : OkF P w K mg base (L2.CX P w) (k + 1) x ps sp := by
  obtain ⟨f, fd, F, hm⟩ := D
  exact ⟨f, fd, F.ok S len fun cdv A outer s H vs Q E hr hsp => hbody f cdv A outer s H vs Q E hr hsp, F.bindsN B, F.kp, hm⟩
theorem MetAt.okX {st : Stmt} {N : List Str} {q : Str} (D : MetAt K C m q st) (S : FnScope N ps (defScope st)) (B : BindsBy m q st ps) (len : ∀ vs H Q E, sp vs H Q E → vs.length = ps.length)
    (hbody : ∀ (f : Addr) (cdv : Value) (A : Around) (outer : List Env) (s : Shared) (H : Hp) (vs : List V) (Q : VK) (E : XK), Room k (A.deeper (envOfC q (defScope st) s.heap.objs.size f cdv)) → sp vs H Q E →
      ∃ t, PSs (cxOf (L2.CX P w) P w K mg base N q (defScope st) f cdv A outer s H E) (defBody st) t ∧ t { nx := fun _ H' => Q .non H', rt := Q } (start N vs) H) : OkM P w K mg base (L2.CX P w) (k + 1) C m ps sp := by
  obtain ⟨f, fd, F, hm⟩ := D
  exact ⟨f, fd, F.ok S len fun cdv A outer s H vs Q E hr hsp => hbody f cdv A outer s H vs Q E hr hsp, F.bindsN B, hm⟩
/-- a class by its __init__ -/
theorem OkM.cls (F : OkM P w K mg base CX k C ("__init__" : Str) ps sp) {f' : Addr} (M : Mk K C f') (hm : mg x = some (.ref C)) : OkC P w K mg base CX k x C ps sp := by
  obtain ⟨f, fd, a, b, c⟩ := F.ex
  have e : f' = f := by
    have h1 := M.init
    have h2 := c.at_
    rw [h1] at h2
    exact Value.ref.inj (Option.some.inj (Option.some.inj h2))
  subst e
  exact ⟨f', fd, a, b, M, hm⟩
end

/-! ### calls; W: what is wished of an exception, by the caller's slots -/
def tCal (sp : Sp) (t : TA) : TE := fun σ H Q => t σ H fun vs H1 => sp vs H1 Q E0
def tMcal (K : PySem.W.Frag) (C : Addr) (m : Str) (sp : Sp) (ta : TE) (t : TA) : TE := fun σ H Q => ta σ H fun x H1 => ∃ a dx fs, x = .ref a ∧ H1 a = some (.ins C dx fs) ∧ fs.lookup m = none ∧ t σ H1 fun vs H2 => sp (.ref a :: vs) H2 Q E0
def tMcalW (K : PySem.W.Frag) (C : Addr) (m : Str) (sp : Sp) (W : WX) (ta : TE) (t : TA) : TE := fun σ H Q => ta σ H fun x H1 => ∃ a dx fs, x = .ref a ∧ H1 a = some (.ins C dx fs) ∧ fs.lookup m = none ∧ t σ H1 fun vs H2 => sp (.ref a :: vs) H2 Q (WE W σ)
def tMk (C : Addr) (sp : Sp) (t : TA) : TE := fun σ H Q => t σ H fun vs H1 => ∀ x dx, H1 x = none → H1 dx = none → dx ≠ x → sp (.ref x :: vs) (upd (upd H1 dx (.own x)) x (.ins C dx [])) (fun v H2 => v = .non ∧ Q (.ref x) H2) E0
def tMkW (C : Addr) (sp : Sp) (W : WX) (t : TA) : TE := fun σ H Q => t σ H fun vs H1 => ∀ x dx, H1 x = none → H1 dx = none → dx ≠ x → sp (.ref x :: vs) (upd (upd H1 dx (.own x)) x (.ins C dx [])) (fun v H2 => v = .non ∧ Q (.ref x) H2) (WE W σ)
section
variable {X : Cx} {CX : CXT} {k : Nat} {C : Addr} {ps : List Str} {sp : Sp} {x m : Str} {p pos apos : Pos} {e o : Expr} {es : List Expr} {ta : TE} {t : TA} {W : WX}
/-- the callee runs; E may speak of the slots -/
theorem run_at {f : Addr} {fd : FuncData} {E : XK} {pins : List (Addr × Obj)} {σ : L2.St} {H : Hp} {s : Shared} {Q : VK} {us : List Value} {vs : List V} (F : FnOk X.prog X.w X.K X.mg X.base CX k f fd ps sp) (hr : Room k X.A) (hb : Binds X.K fd ps []) (hx : PassesAt CX X σ E)
    (I : Inv X pins σ H s) (r : Vals vs us) (h : sp vs H Q E) : wpAny (model X.prog X.w) X.A (call (.ref f) us) (EP X pins σ Q) X.xe s :=
  run_fnS (E := fun _ => E) F hr hb hx I r h
theorem passesAt_c0 {σ : L2.St} : PassesAt CX0 X σ E0 := fun _ _ _ _ _ _ h => h.elim
theorem passesAt_cl {σ : L2.St} : PassesAt (L2.CX X.prog X.w) X σ E0 := fun _ _ _ e s' I c => passL _ _ _ _ e s' I c
/-- what a call is let to do with exceptions: the def lets nothing out, or nothing is let out here -/
def Still (X : Cx) (CX : CXT) : Prop := ∀ σ, PassesAt CX X σ E0
theorem still0 : Still X CX0 := fun _ => passesAt_c0
theorem stillL : Still X (L2.CX X.prog X.w) := fun _ => passesAt_cl
/-- f(e, ..) -/
theorem pe_cal (F : OkF X.prog X.w X.K X.mg X.base CX k x ps sp) (hr : Room k X.A) (ha : PA X (e :: es) t) (hx : Still X CX := by first | exact still0 | exact stillL) (hg : Gl X x := by rfl) (hdb : (x == ("__debug__" : Str)) = false := by decide)
    (he : starEach (e :: es) X.env = (false, eval e X.env) :: starEach es X.env := by rfl) (hpl : (backTo pos (starEach es X.env)).any (·.1) = false := by rfl) :
    PE X (.Call (.Name x p) (e :: es) [] pos) (tCal sp t) := by
  obtain ⟨f, fd, G, hb, hk, hm⟩ := F.ex
  refine ⟨fun pins s σ H Q I h => ?_⟩
  refine wpAny_Call_Name_kw (ld_glob I hg hm ?_ hdb)
  refine PySem.W.callWith_K (h₀ := X.base) I.ok.mod.kin hk (thn (ha.run pos pins s σ H _ I h) fun us s1 ⟨vs, H1, I1, r, q⟩ => ⟨I1.kIn, ?_⟩) he hpl
  exact run_at G hr hb (hx σ) I1 r q
/-- o.m(e, ..), o.m() -/
theorem pe_mcal {pl : Sem Bool} (F : OkM X.prog X.w X.K X.mg X.base CX k C m ps sp) (c : Cls X.K C) (hr : Room k X.A) (he : PE X o ta) (ha : PA X (e :: es) t) (hx : Still X CX := by first | exact still0 | exact stillL)
    (hst : starEach (e :: es) X.env = (false, eval e X.env) :: starEach es X.env := by rfl) (hpl : (backTo pos (starEach es X.env)).any (·.1) = false := by rfl)
    (ht : eval (.Call (.Attribute o m apos) (e :: es) [] pos) X.env = (do
      let ov ← eval o X.env
      standAt apos.atName
      let (f, first) ← holding [ov] (getMethod ov m pl)
      callWith pos f first (backTo pos (starEach (e :: es) X.env)) (backToKw pos (keywordEach [] X.env))) := by rfl) :
    PE X (.Call (.Attribute o m apos) (e :: es) [] pos) (tMcal X.K C m sp ta t) := by
  obtain ⟨f, fd, G, hb, hm⟩ := F.ex
  refine ⟨fun pins s σ H Q I h => ?_⟩
  refine PySem.W.methodCall_KW (pl := pl) (thn (he.run pins s σ H _ I h) fun u s1 ⟨x, H1, I1, rx, a, dx, fs, ex, ea, l, q⟩ => ?_) ht
  subst ex
  obtain rfl : u = Value.ref a := rx
  refine getmeth_ok I1 ea c hm l ?_
  refine PySem.W.callWith_K (first := [.ref a]) (h₀ := X.base) I.ok.mod.kin hm.kp (thn (ha.run pos pins s1 σ H1 _ I1 q) fun us s2 ⟨vs, H2, I2, r, q2⟩ => ⟨I2.kIn, ?_⟩) hst hpl
  exact run_at (us := .ref a :: us) (vs := .ref a :: vs) G hr hb (hx σ) I2 (.cons rfl r) q2
theorem pe_mcal0 {pl : Sem Bool} (F : OkM X.prog X.w X.K X.mg X.base CX k C m ps sp) (c : Cls X.K C) (hr : Room k X.A) (he : PE X o ta) (hx : Still X CX := by first | exact still0 | exact stillL)
    (ht : eval (.Call (.Attribute o m apos) [] [] pos) X.env = (do
      let ov ← eval o X.env
      standAt apos.atName
      let (f, first) ← holding [ov] (getMethod ov m pl)
      callWith pos f first (backTo pos (starEach [] X.env)) (backToKw pos (keywordEach [] X.env))) := by rfl) :
    PE X (.Call (.Attribute o m apos) [] [] pos) (tMcal X.K C m sp ta tNil) := by
  obtain ⟨f, fd, G, hb, hm⟩ := F.ex
  refine ⟨fun pins s σ H Q I h => ?_⟩
  refine PySem.W.methodCall_KW (pl := pl) (thn (he.run pins s σ H _ I h) fun u s1 ⟨x, H1, I1, rx, a, dx, fs, ex, ea, l, q⟩ => ?_) ht
  subst ex
  obtain rfl : u = Value.ref a := rx
  refine getmeth_ok I1 ea c hm l ?_
  exact PySem.W.callWith_K0 (first := [.ref a]) I1.kIn hm.kp (run_at (us := [.ref a]) (vs := [.ref a]) G hr hb (hx σ) I1 (.cons rfl .nil) q)
/-- .. in a try's body -/
theorem pe_mcalW {pl : Sem Bool} (F : OkM X.prog X.w X.K X.mg X.base (L2.CX X.prog X.w) k C m ps sp) (c : Cls X.K C) (hr : Room k X.A) (tk : Takes X W) (he : PE X o ta) (ha : PA X (e :: es) t)
    (hst : starEach (e :: es) X.env = (false, eval e X.env) :: starEach es X.env := by rfl) (hpl : (backTo pos (starEach es X.env)).any (·.1) = false := by rfl)
    (ht : eval (.Call (.Attribute o m apos) (e :: es) [] pos) X.env = (do
      let ov ← eval o X.env
      standAt apos.atName
      let (f, first) ← holding [ov] (getMethod ov m pl)
      callWith pos f first (backTo pos (starEach (e :: es) X.env)) (backToKw pos (keywordEach [] X.env))) := by rfl) :
    PE X (.Call (.Attribute o m apos) (e :: es) [] pos) (tMcalW X.K C m sp W ta t) := by
  obtain ⟨f, fd, G, hb, hm⟩ := F.ex
  refine ⟨fun pins s σ H Q I h => ?_⟩
  refine PySem.W.methodCall_KW (pl := pl) (thn (he.run pins s σ H _ I h) fun u s1 ⟨x, H1, I1, rx, a, dx, fs, ex, ea, l, q⟩ => ?_) ht
  subst ex
  obtain rfl : u = Value.ref a := rx
  refine getmeth_ok I1 ea c hm l ?_
  refine PySem.W.callWith_K (first := [.ref a]) (h₀ := X.base) I.ok.mod.kin hm.kp (thn (ha.run pos pins s1 σ H1 _ I1 q) fun us s2 ⟨vs, H2, I2, r, q2⟩ => ⟨I2.kIn, ?_⟩) hst hpl
  exact run_at (us := .ref a :: us) (vs := .ref a :: vs) G hr hb (passAt tk σ) I2 (.cons rfl r) q2
theorem pe_mcal0W {pl : Sem Bool} (F : OkM X.prog X.w X.K X.mg X.base (L2.CX X.prog X.w) k C m ps sp) (c : Cls X.K C) (hr : Room k X.A) (tk : Takes X W) (he : PE X o ta)
    (ht : eval (.Call (.Attribute o m apos) [] [] pos) X.env = (do
      let ov ← eval o X.env
      standAt apos.atName
      let (f, first) ← holding [ov] (getMethod ov m pl)
      callWith pos f first (backTo pos (starEach [] X.env)) (backToKw pos (keywordEach [] X.env))) := by rfl) :
    PE X (.Call (.Attribute o m apos) [] [] pos) (tMcalW X.K C m sp W ta tNil) := by
  obtain ⟨f, fd, G, hb, hm⟩ := F.ex
  refine ⟨fun pins s σ H Q I h => ?_⟩
  refine PySem.W.methodCall_KW (pl := pl) (thn (he.run pins s σ H _ I h) fun u s1 ⟨x, H1, I1, rx, a, dx, fs, ex, ea, l, q⟩ => ?_) ht
  subst ex
  obtain rfl : u = Value.ref a := rx
  refine getmeth_ok I1 ea c hm l ?_
  exact PySem.W.callWith_K0 (first := [.ref a]) I1.kIn hm.kp (run_at (us := [.ref a]) (vs := [.ref a]) G hr hb (passAt tk σ) I1 (.cons rfl .nil) q)
theorem run_mk {f : Addr} {fd : FuncData} {E : XK} {pins : List (Addr × Obj)} {σ : L2.St} {H : Hp} {s : Shared} {Q : VK} {us : List Value} {vs : List V} (M : Mk X.K C f) (F : FnOk X.prog X.w X.K X.mg X.base CX k f fd ps sp) (hr : Room (k + 1) X.A) (hb : Binds X.K fd ps [])
    (hx : PassesAt CX X σ E) (I : Inv X pins σ H s) (r : Vals vs us)
    (h : ∀ x dx, H x = none → H dx = none → dx ≠ x → sp (.ref x :: vs) (upd (upd H dx (.own x)) x (.ins C dx [])) (fun v H2 => v = .non ∧ Q (.ref x) H2) E) :
    wpAny (model X.prog X.w) X.A (call (.ref C) us) (EP X pins σ Q) X.xe s := by
  have hq := h (s.heap.objs.size + 1) s.heap.objs.size (I.hok.fresh (Nat.le_succ _)) (I.hok.fresh (Nat.le_refl _)) (Nat.ne_of_lt (Nat.lt_succ_self _))
  have I2 := Inv.made (C := C) I
  have r2 : Vals (V.ref (s.heap.objs.size + 1) :: vs) (Value.ref (s.heap.objs.size + 1) :: us) := .cons rfl r
  have hl : (Value.ref (s.heap.objs.size + 1) :: us).length = ps.length := by
    have e := r2.length
    rw [F.len _ _ _ _ hq] at e
    exact e.symm
  have b := hb { s with heap := (s.heap.push PySem.W.emptyDict).push (PySem.W.instObj C s.heap.objs.size) } (Value.ref (s.heap.objs.size + 1) :: us) I2.kIn (by rw [List.append_nil]; exact hl)
  rw [List.append_nil] at b
  refine wpAny_call (make_map (f := f) I.kIn M.makes M.init (beq_iff_eq.mp M.fn) (codeAny_mono (F.run _ X.stack _ _ ⟨Value.ref (s.heap.objs.size + 1) :: us, []⟩ (Value.ref (s.heap.objs.size + 1) :: us) _ _ E (hr.make C us [])
    (I2.env0.make C us []) b r2 hq) fun r s' hq' => ?_))
  cases r with
  | error e => exact hx pins _ _ e s' I2 hq'
  | ok fl =>
    cases fl with
    | ret u =>
      obtain ⟨v, H', I3, rv, ev, q3⟩ := I2.after hq'
      subst ev
      exact ⟨rv, ⟨V.ref (s.heap.objs.size + 1), H', I3, rfl, q3⟩⟩
    | next => exact False.elim hq'
    | brk => exact False.elim hq'
    | cont => exact False.elim hq'
/-- C(e, ..) -/
theorem pe_mk (F : OkC X.prog X.w X.K X.mg X.base CX k x C ps sp) (hr : Room (k + 1) X.A) (ha : PA X (e :: es) t) (hx : Still X CX := by first | exact still0 | exact stillL) (hg : Gl X x := by rfl) (hdb : (x == ("__debug__" : Str)) = false := by decide)
    (he : starEach (e :: es) X.env = (false, eval e X.env) :: starEach es X.env := by rfl) (hpl : (backTo pos (starEach es X.env)).any (·.1) = false := by rfl) :
    PE X (.Call (.Name x p) (e :: es) [] pos) (tMk C sp t) := by
  obtain ⟨f, fd, G, hb, M, hm⟩ := F.ex
  refine ⟨fun pins s σ H Q I h => ?_⟩
  refine wpAny_Call_Name_kw (ld_glob I hg hm ?_ hdb)
  refine PySem.W.callWith_K (h₀ := X.base) I.ok.mod.kin M.kp (thn (ha.run pos pins s σ H _ I h) fun us s1 ⟨vs, H1, I1, r, q⟩ => ⟨I1.kIn, ?_⟩) he hpl
  exact run_mk M G hr hb (hx σ) I1 r q
theorem pe_mkW (F : OkC X.prog X.w X.K X.mg X.base (L2.CX X.prog X.w) k x C ps sp) (hr : Room (k + 1) X.A) (tk : Takes X W) (ha : PA X (e :: es) t) (hg : Gl X x := by rfl) (hdb : (x == ("__debug__" : Str)) = false := by decide)
    (he : starEach (e :: es) X.env = (false, eval e X.env) :: starEach es X.env := by rfl) (hpl : (backTo pos (starEach es X.env)).any (·.1) = false := by rfl) :
    PE X (.Call (.Name x p) (e :: es) [] pos) (tMkW C sp W t) := by
  obtain ⟨f, fd, G, hb, M, hm⟩ := F.ex
  refine ⟨fun pins s σ H Q I h => ?_⟩
  refine wpAny_Call_Name_kw (ld_glob I hg hm ?_ hdb)
  refine PySem.W.callWith_K (h₀ := X.base) I.ok.mod.kin M.kp (thn (ha.run pos pins s σ H _ I h) fun us s1 ⟨vs, H1, I1, r, q⟩ => ⟨I1.kIn, ?_⟩) he hpl
  exact run_mk M G hr hb (passAt tk σ) I1 r q
/-- a module's constant: a text, an int -/
def GStr (mg : Str → Option Value) (x z : Str) : Prop := ∃ t, mg x = some (.str z t)
def GInt (mg : Str → Option Value) (x : Str) (i : Int) : Prop := ∃ t, mg x = some (.int i t)
theorem pe_gs {z : Str} (h : GStr X.mg x z) (hg : Gl X x := by rfl) (hd : (x == ("__debug__" : Str)) = false := by decide) : PE X (.Name x p) (tC (.str z)) :=
  let ⟨t, e⟩ := h; pe_glob hg e ⟨t, rfl⟩ hd
theorem pe_gi {i : Int} (h : GInt X.mg x i) (hg : Gl X x := by rfl) (hd : (x == ("__debug__" : Str)) = false := by decide) : PE X (.Name x p) (tC (.int i)) :=
  let ⟨t, e⟩ := h; pe_glob hg e ⟨t, rfl⟩ hd
theorem pe_gr {a : Addr} (h : X.mg x = some (.ref a)) (hg : Gl X x := by rfl) (hd : (x == ("__debug__" : Str)) = false := by decide) : PE X (.Name x p) (tC (.ref a)) := pe_glob hg h rfl hd
/-- a built-in type's name as a value -/
theorem pe_bty {T : String} (hm : X.mg x = none) (hv : bootBuiltins x = some (.type T)) (hg : Gl X x := by rfl) (hn : x ≠ "__name__" := by decide) (hd : (x == ("__debug__" : Str)) = false := by decide) : PE X (.Name x p) (tC (.ty T)) := pe_bltn hg hm hv rfl hn hd
/-- X() of an own exception class without __init__ -/
theorem pmk_own0 {bmB : List Value} {B newId initId : String} (F : ExcBaseFacts B newId initId bmB) (q : PySem.W.excIn X.K C bmB newId = true) (gC : X.mg x = some (.ref C)) (kC : PySem.W.keepIn X.K (.ref C) = true) (r : Raises X (.ref C)) (hg : Gl X x)
    (hdb : (x == ("__debug__" : Str)) = false := by decide) : PMk X (.Call (.Name x p) [] [] pos) (fun _ H Q => Q (.ref C) none H) := by
  intro pins s σ H Q I h
  refine wpAny_Call_Name_kw (ld_glob I hg gC ?_ hdb)
  refine PySem.W.callWith_K0 I.kIn kC ?_
  obtain ⟨bm, N, nm, qn, bs, hdct, sn, sub, ab, col, dd, k0, k1, k2, k3, k5, mN, hC, hN, hni, T⟩ := exc_obj I.kIn q
  show wpAny _ _ (call (.ref C) []) _ _ _
  refine wpAny_call_exc_subT F T hC hN hni (fun h' e hm => ?_) (by show 0 ≤ sizeLine; exact Nat.zero_le _)
  exact mk_of I hm r h (I.hok.gone hm.new)
end
end K34

set_option Elab.async false
set_option linter.all false
set_option maxRecDepth 100000
set_option maxHeartbeats 4000000
/-! K1 (printed by gen.py k1): the statements by places, the defs' scopes and how their arguments bind; what the top leaves. -/
namespace K34
open PySem PySem.Spec PyProof.Rows L2
open He (ga ma)
abbrev s_is_integer : Stmt := top 9
abbrev N_is_integer : List Str := ["thing"]
theorem sc_is_integer : FnScope N_is_integer ["thing"] (defScope s_is_integer) := ⟨rfl, rfl, rfl, by decide +kernel, rfl, by decide +kernel, by decide +kernel⟩
theorem bb_is_integer : BindsBy "is_integer" "is_integer" s_is_integer ["thing"] := fun _ _ _ _ _ _ us hl => match us, hl with | [_], _ => rfl
abbrev s_is_within : Stmt := top 10
abbrev N_is_within : List Str := ["thing", "least", "most"]
theorem sc_is_within : FnScope N_is_within ["thing", "least", "most"] (defScope s_is_within) := ⟨rfl, rfl, rfl, by decide +kernel, rfl, by decide +kernel, by decide +kernel⟩
theorem bb_is_within : BindsBy "is_within" "is_within" s_is_within ["thing", "least", "most"] := fun _ _ _ _ _ _ us hl => match us, hl with | [_, _, _], _ => rfl
abbrev s_is_below : Stmt := top 11
abbrev N_is_below : List Str := ["thing", "many"]
theorem sc_is_below : FnScope N_is_below ["thing", "many"] (defScope s_is_below) := ⟨rfl, rfl, rfl, by decide +kernel, rfl, by decide +kernel, by decide +kernel⟩
theorem bb_is_below : BindsBy "is_below" "is_below" s_is_below ["thing", "many"] := fun _ _ _ _ _ _ us hl => match us, hl with | [_, _], _ => rfl
abbrev s_is_pair : Stmt := top 12
abbrev N_is_pair : List Str := ["thing"]
theorem sc_is_pair : FnScope N_is_pair ["thing"] (defScope s_is_pair) := ⟨rfl, rfl, rfl, by decide +kernel, rfl, by decide +kernel, by decide +kernel⟩
theorem bb_is_pair : BindsBy "is_pair" "is_pair" s_is_pair ["thing"] := fun _ _ _ _ _ _ us hl => match us, hl with | [_], _ => rfl
abbrev s_is_sized : Stmt := top 13
abbrev N_is_sized : List Str := ["thing", "least", "most"]
theorem sc_is_sized : FnScope N_is_sized ["thing", "least", "most"] (defScope s_is_sized) := ⟨rfl, rfl, rfl, by decide +kernel, rfl, by decide +kernel, by decide +kernel⟩
theorem bb_is_sized : BindsBy "is_sized" "is_sized" s_is_sized ["thing", "least", "most"] := fun _ _ _ _ _ _ us hl => match us, hl with | [_, _, _], _ => rfl
abbrev s_are_integers : Stmt := top 14
abbrev N_are_integers : List Str := ["thing", "many", "item"]
theorem sc_are_integers : FnScope N_are_integers ["thing", "many"] (defScope s_are_integers) := ⟨rfl, rfl, rfl, by decide +kernel, rfl, by decide +kernel, by decide +kernel⟩
theorem bb_are_integers : BindsBy "are_integers" "are_integers" s_are_integers ["thing", "many"] := fun _ _ _ _ _ _ us hl => match us, hl with | [_, _], _ => rfl
abbrev s_check_number : Stmt := top 15
abbrev N_check_number : List Str := ["thing", "least", "most"]
theorem sc_check_number : FnScope N_check_number ["thing", "least", "most"] (defScope s_check_number) := ⟨rfl, rfl, rfl, by decide +kernel, rfl, by decide +kernel, by decide +kernel⟩
theorem bb_check_number : BindsBy "check_number" "check_number" s_check_number ["thing", "least", "most"] := fun _ _ _ _ _ _ us hl => match us, hl with | [_, _, _], _ => rfl
abbrev s_is_size : Stmt := top 19
abbrev N_is_size : List Str := ["thing"]
theorem sc_is_size : FnScope N_is_size ["thing"] (defScope s_is_size) := ⟨rfl, rfl, rfl, by decide +kernel, rfl, by decide +kernel, by decide +kernel⟩
theorem bb_is_size : BindsBy "is_size" "is_size" s_is_size ["thing"] := fun _ _ _ _ _ _ us hl => match us, hl with | [_], _ => rfl
abbrev s_Boxes___init__ : Stmt := inClass (top 20) 0
abbrev N_Boxes___init__ : List Str := ["self", "sizes", "number", "size"]
theorem sc_Boxes___init__ : FnScope N_Boxes___init__ ["self", "sizes"] (defScope s_Boxes___init__) := ⟨rfl, rfl, rfl, by decide +kernel, rfl, by decide +kernel, by decide +kernel⟩
theorem bb_Boxes___init__ : BindsBy "__init__" "Boxes.__init__" s_Boxes___init__ ["self", "sizes"] := fun _ _ _ _ _ _ us hl => match us, hl with | [_, _], _ => rfl
abbrev s_is_sum : Stmt := top 41
abbrev N_is_sum : List Str := ["cells", "thing", "item"]
theorem sc_is_sum : FnScope N_is_sum ["cells", "thing"] (defScope s_is_sum) := ⟨rfl, rfl, rfl, by decide +kernel, rfl, by decide +kernel, by decide +kernel⟩
theorem bb_is_sum : BindsBy "is_sum" "is_sum" s_is_sum ["cells", "thing"] := fun _ _ _ _ _ _ us hl => match us, hl with | [_, _], _ => rfl
abbrev s_is_test : Stmt := top 42
abbrev N_is_test : List Str := ["cells", "thing"]
theorem sc_is_test : FnScope N_is_test ["cells", "thing"] (defScope s_is_test) := ⟨rfl, rfl, rfl, by decide +kernel, rfl, by decide +kernel, by decide +kernel⟩
theorem bb_is_test : BindsBy "is_test" "is_test" s_is_test ["cells", "thing"] := fun _ _ _ _ _ _ us hl => match us, hl with | [_, _], _ => rfl
abbrev s_is_plain : Stmt := top 43
abbrev N_is_plain : List Str := ["cells", "routines", "thing", "part"]
theorem sc_is_plain : FnScope N_is_plain ["cells", "routines", "thing"] (defScope s_is_plain) := ⟨rfl, rfl, rfl, by decide +kernel, rfl, by decide +kernel, by decide +kernel⟩
theorem bb_is_plain : BindsBy "is_plain" "is_plain" s_is_plain ["cells", "routines", "thing"] := fun _ _ _ _ _ _ us hl => match us, hl with | [_, _, _], _ => rfl
abbrev s_statement_size : Stmt := top 44
abbrev N_statement_size : List Str := ["cells", "routines", "deep", "thing", "sizes", "body"]
theorem sc_statement_size : FnScope N_statement_size ["cells", "routines", "deep", "thing"] (defScope s_statement_size) := ⟨rfl, rfl, rfl, by decide +kernel, rfl, by decide +kernel, by decide +kernel⟩
theorem bb_statement_size : BindsBy "statement_size" "statement_size" s_statement_size ["cells", "routines", "deep", "thing"] := fun _ _ _ _ _ _ us hl => match us, hl with | [_, _, _, _], _ => rfl
abbrev s_body_size : Stmt := top 45
abbrev N_body_size : List Str := ["cells", "routines", "deep", "thing", "found", "statement", "size"]
theorem sc_body_size : FnScope N_body_size ["cells", "routines", "deep", "thing"] (defScope s_body_size) := ⟨rfl, rfl, rfl, by decide +kernel, rfl, by decide +kernel, by decide +kernel⟩
theorem bb_body_size : BindsBy "body_size" "body_size" s_body_size ["cells", "routines", "deep", "thing"] := fun _ _ _ _ _ _ us hl => match us, hl with | [_, _, _, _], _ => rfl
abbrev s_wrong_part : Stmt := top 46
abbrev N_wrong_part : List Str := ["cells", "routines", "number", "body", "size"]
theorem sc_wrong_part : FnScope N_wrong_part ["cells", "routines"] (defScope s_wrong_part) := ⟨rfl, rfl, rfl, by decide +kernel, rfl, by decide +kernel, by decide +kernel⟩
theorem bb_wrong_part : BindsBy "wrong_part" "wrong_part" s_wrong_part ["cells", "routines"] := fun _ _ _ _ _ _ us hl => match us, hl with | [_, _], _ => rfl
abbrev s_Scene___init__ : Stmt := inClass (top 47) 0
abbrev N_Scene___init__ : List Str := ["self", "cells", "routines", "part"]
theorem sc_Scene___init__ : FnScope N_Scene___init__ ["self", "cells", "routines"] (defScope s_Scene___init__) := ⟨rfl, rfl, rfl, by decide +kernel, rfl, by decide +kernel, by decide +kernel⟩
theorem bb_Scene___init__ : BindsBy "__init__" "Scene.__init__" s_Scene___init__ ["self", "cells", "routines"] := fun _ _ _ _ _ _ us hl => match us, hl with | [_, _, _], _ => rfl
abbrev s_value_of : Stmt := top 48
abbrev N_value_of : List Str := ["summed", "held", "many", "one"]
theorem sc_value_of : FnScope N_value_of ["summed", "held"] (defScope s_value_of) := ⟨rfl, rfl, rfl, by decide +kernel, rfl, by decide +kernel, by decide +kernel⟩
theorem bb_value_of : BindsBy "value_of" "value_of" s_value_of ["summed", "held"] := fun _ _ _ _ _ _ us hl => match us, hl with | [_, _], _ => rfl
abbrev s_does_hold : Stmt := top 49
abbrev N_does_hold : List Str := ["test", "held", "one", "other"]
theorem sc_does_hold : FnScope N_does_hold ["test", "held"] (defScope s_does_hold) := ⟨rfl, rfl, rfl, by decide +kernel, rfl, by decide +kernel, by decide +kernel⟩
theorem bb_does_hold : BindsBy "does_hold" "does_hold" s_does_hold ["test", "held"] := fun _ _ _ _ _ _ us hl => match us, hl with | [_, _], _ => rfl
abbrev s_are_contents : Stmt := top 50
abbrev N_are_contents : List Str := ["scene", "thing"]
theorem sc_are_contents : FnScope N_are_contents ["scene", "thing"] (defScope s_are_contents) := ⟨rfl, rfl, rfl, by decide +kernel, rfl, by decide +kernel, by decide +kernel⟩
theorem bb_are_contents : BindsBy "are_contents" "are_contents" s_are_contents ["scene", "thing"] := fun _ _ _ _ _ _ us hl => match us, hl with | [_, _], _ => rfl
abbrev s_settled : Stmt := top 57
abbrev N_settled : List Str := ["opened", "number", "levels", "body", "place"]
theorem sc_settled : FnScope N_settled ["opened"] (defScope s_settled) := ⟨rfl, rfl, rfl, by decide +kernel, rfl, by decide +kernel, by decide +kernel⟩
theorem bb_settled : BindsBy "settled" "settled" s_settled ["opened"] := fun _ _ _ _ _ _ us hl => match us, hl with | [_], _ => rfl
abbrev s_onward : Stmt := top 58
abbrev N_onward : List Str := ["levels", "body", "place"]
theorem sc_onward : FnScope N_onward ["levels"] (defScope s_onward) := ⟨rfl, rfl, rfl, by decide +kernel, rfl, by decide +kernel, by decide +kernel⟩
theorem bb_onward : BindsBy "onward" "onward" s_onward ["levels"] := fun _ _ _ _ _ _ us hl => match us, hl with | [_], _ => rfl
abbrev s_next_of : Stmt := top 59
abbrev N_next_of : List Str := ["opened", "body", "place"]
theorem sc_next_of : FnScope N_next_of ["opened"] (defScope s_next_of) := ⟨rfl, rfl, rfl, by decide +kernel, rfl, by decide +kernel, by decide +kernel⟩
theorem bb_next_of : BindsBy "next_of" "next_of" s_next_of ["opened"] := fun _ _ _ _ _ _ us hl => match us, hl with | [_], _ => rfl
abbrev s_walked_on : Stmt := top 60
abbrev N_walked_on : List Str := ["scene", "opened", "held", "statement", "number", "levels", "is_held"]
theorem sc_walked_on : FnScope N_walked_on ["scene", "opened", "held"] (defScope s_walked_on) := ⟨rfl, rfl, rfl, by decide +kernel, rfl, by decide +kernel, by decide +kernel⟩
theorem bb_walked_on : BindsBy "walked_on" "walked_on" s_walked_on ["scene", "opened", "held"] := fun _ _ _ _ _ _ us hl => match us, hl with | [_, _, _], _ => rfl
abbrev s_Standing___init__ : Stmt := inClass (top 61) 0
abbrev N_Standing___init__ : List Str := ["self", "opened", "held", "put"]
theorem sc_Standing___init__ : FnScope N_Standing___init__ ["self", "opened", "held", "put"] (defScope s_Standing___init__) := ⟨rfl, rfl, rfl, by decide +kernel, rfl, by decide +kernel, by decide +kernel⟩
theorem bb_Standing___init__ : BindsBy "__init__" "Standing.__init__" s_Standing___init__ ["self", "opened", "held", "put"] := fun _ _ _ _ _ _ us hl => match us, hl with | [_, _, _, _], _ => rfl
abbrev s_begun : Stmt := top 62
abbrev N_begun : List Str := ["scene", "boxes", "begins"]
theorem sc_begun : FnScope N_begun ["scene", "boxes", "begins"] (defScope s_begun) := ⟨rfl, rfl, rfl, by decide +kernel, rfl, by decide +kernel, by decide +kernel⟩
theorem bb_begun : BindsBy "begun" "begun" s_begun ["scene", "boxes", "begins"] := fun _ _ _ _ _ _ us hl => match us, hl with | [_, _, _], _ => rfl
abbrev s_is_done : Stmt := top 63
abbrev N_is_done : List Str := ["boxes", "standing", "statement", "box"]
theorem sc_is_done : FnScope N_is_done ["boxes", "standing"] (defScope s_is_done) := ⟨rfl, rfl, rfl, by decide +kernel, rfl, by decide +kernel, by decide +kernel⟩
theorem bb_is_done : BindsBy "is_done" "is_done" s_is_done ["boxes", "standing"] := fun _ _ _ _ _ _ us hl => match us, hl with | [_, _], _ => rfl
abbrev s_word_of : Stmt := top 64
abbrev N_word_of : List Str := ["boxes", "standing"]
theorem sc_word_of : FnScope N_word_of ["boxes", "standing"] (defScope s_word_of) := ⟨rfl, rfl, rfl, by decide +kernel, rfl, by decide +kernel, by decide +kernel⟩
theorem bb_word_of : BindsBy "word_of" "word_of" s_word_of ["boxes", "standing"] := fun _ _ _ _ _ _ us hl => match us, hl with | [_, _], _ => rfl
abbrev s_asked_of : Stmt := top 65
abbrev N_asked_of : List Str := ["boxes", "put", "word", "box"]
theorem sc_asked_of : FnScope N_asked_of ["boxes", "put", "word", "box"] (defScope s_asked_of) := ⟨rfl, rfl, rfl, by decide +kernel, rfl, by decide +kernel, by decide +kernel⟩
theorem bb_asked_of : BindsBy "asked_of" "asked_of" s_asked_of ["boxes", "put", "word", "box"] := fun _ _ _ _ _ _ us hl => match us, hl with | [_, _, _, _], _ => rfl
abbrev s_changed : Stmt := top 66
abbrev N_changed : List Str := ["row", "at", "item"]
theorem sc_changed : FnScope N_changed ["row", "at", "item"] (defScope s_changed) := ⟨rfl, rfl, rfl, by decide +kernel, rfl, by decide +kernel, by decide +kernel⟩
theorem bb_changed : BindsBy "changed" "changed" s_changed ["row", "at", "item"] := fun _ _ _ _ _ _ us hl => match us, hl with | [_, _, _], _ => rfl
abbrev s_behind_step : Stmt := top 67
abbrev N_behind_step : List Str := ["scene", "boxes", "standing", "statement", "held", "put", "opened", "box", "x", "y", "part"]
theorem sc_behind_step : FnScope N_behind_step ["scene", "boxes", "standing"] (defScope s_behind_step) := ⟨rfl, rfl, rfl, by decide +kernel, rfl, by decide +kernel, by decide +kernel⟩
theorem bb_behind_step : BindsBy "behind_step" "behind_step" s_behind_step ["scene", "boxes", "standing"] := fun _ _ _ _ _ _ us hl => match us, hl with | [_, _, _], _ => rfl
abbrev s_SceneRunner___init__ : Stmt := inClass (top 68) 0
abbrev N_SceneRunner___init__ : List Str := ["self", "scene", "boxes", "begins"]
theorem sc_SceneRunner___init__ : FnScope N_SceneRunner___init__ ["self", "scene", "boxes", "begins"] (defScope s_SceneRunner___init__) := ⟨rfl, rfl, rfl, by decide +kernel, rfl, by decide +kernel, by decide +kernel⟩
theorem bb_SceneRunner___init__ : BindsBy "__init__" "SceneRunner.__init__" s_SceneRunner___init__ ["self", "scene", "boxes", "begins"] := fun _ _ _ _ _ _ us hl => match us, hl with | [_, _, _, _], _ => rfl
abbrev s_SceneRunner_word : Stmt := inClass (top 68) 1
abbrev N_SceneRunner_word : List Str := ["self"]
theorem sc_SceneRunner_word : FnScope N_SceneRunner_word ["self"] (defScope s_SceneRunner_word) := ⟨rfl, rfl, rfl, by decide +kernel, rfl, by decide +kernel, by decide +kernel⟩
theorem bb_SceneRunner_word : BindsBy "word" "SceneRunner.word" s_SceneRunner_word ["self"] := fun _ _ _ _ _ _ us hl => match us, hl with | [_], _ => rfl
abbrev s_SceneRunner_coming : Stmt := inClass (top 68) 2
abbrev N_SceneRunner_coming : List Str := ["self", "statement"]
theorem sc_SceneRunner_coming : FnScope N_SceneRunner_coming ["self"] (defScope s_SceneRunner_coming) := ⟨rfl, rfl, rfl, by decide +kernel, rfl, by decide +kernel, by decide +kernel⟩
theorem bb_SceneRunner_coming : BindsBy "coming" "SceneRunner.coming" s_SceneRunner_coming ["self"] := fun _ _ _ _ _ _ us hl => match us, hl with | [_], _ => rfl
abbrev s_SceneRunner_opened : Stmt := inClass (top 68) 3
abbrev N_SceneRunner_opened : List Str := ["self", "number", "levels"]
theorem sc_SceneRunner_opened : FnScope N_SceneRunner_opened ["self"] (defScope s_SceneRunner_opened) := ⟨rfl, rfl, rfl, by decide +kernel, rfl, by decide +kernel, by decide +kernel⟩
theorem bb_SceneRunner_opened : BindsBy "opened" "SceneRunner.opened" s_SceneRunner_opened ["self"] := fun _ _ _ _ _ _ us hl => match us, hl with | [_], _ => rfl
abbrev s_SceneRunner_contents : Stmt := inClass (top 68) 4
abbrev N_SceneRunner_contents : List Str := ["self"]
theorem sc_SceneRunner_contents : FnScope N_SceneRunner_contents ["self"] (defScope s_SceneRunner_contents) := ⟨rfl, rfl, rfl, by decide +kernel, rfl, by decide +kernel, by decide +kernel⟩
theorem bb_SceneRunner_contents : BindsBy "contents" "SceneRunner.contents" s_SceneRunner_contents ["self"] := fun _ _ _ _ _ _ us hl => match us, hl with | [_], _ => rfl
abbrev s_SceneRunner_places : Stmt := inClass (top 68) 5
abbrev N_SceneRunner_places : List Str := ["self"]
theorem sc_SceneRunner_places : FnScope N_SceneRunner_places ["self"] (defScope s_SceneRunner_places) := ⟨rfl, rfl, rfl, by decide +kernel, rfl, by decide +kernel, by decide +kernel⟩
theorem bb_SceneRunner_places : BindsBy "places" "SceneRunner.places" s_SceneRunner_places ["self"] := fun _ _ _ _ _ _ us hl => match us, hl with | [_], _ => rfl
abbrev s_SceneRunner_step : Stmt := inClass (top 68) 6
abbrev N_SceneRunner_step : List Str := ["self"]
theorem sc_SceneRunner_step : FnScope N_SceneRunner_step ["self"] (defScope s_SceneRunner_step) := ⟨rfl, rfl, rfl, by decide +kernel, rfl, by decide +kernel, by decide +kernel⟩
theorem bb_SceneRunner_step : BindsBy "step" "SceneRunner.step" s_SceneRunner_step ["self"] := fun _ _ _ _ _ _ us hl => match us, hl with | [_], _ => rfl
abbrev s_SceneRunner_back : Stmt := inClass (top 68) 7
abbrev N_SceneRunner_back : List Str := ["self"]
theorem sc_SceneRunner_back : FnScope N_SceneRunner_back ["self"] (defScope s_SceneRunner_back) := ⟨rfl, rfl, rfl, by decide +kernel, rfl, by decide +kernel, by decide +kernel⟩
theorem bb_SceneRunner_back : BindsBy "back" "SceneRunner.back" s_SceneRunner_back ["self"] := fun _ _ _ _ _ _ us hl => match us, hl with | [_], _ => rfl
abbrev s_SceneRunner_steps : Stmt := inClass (top 68) 8
abbrev N_SceneRunner_steps : List Str := ["self"]
theorem sc_SceneRunner_steps : FnScope N_SceneRunner_steps ["self"] (defScope s_SceneRunner_steps) := ⟨rfl, rfl, rfl, by decide +kernel, rfl, by decide +kernel, by decide +kernel⟩
theorem bb_SceneRunner_steps : BindsBy "steps" "SceneRunner.steps" s_SceneRunner_steps ["self"] := fun _ _ _ _ _ _ us hl => match us, hl with | [_], _ => rfl
abbrev s_SceneRunner_go : Stmt := inClass (top 68) 9
abbrev N_SceneRunner_go : List Str := ["self", "most", "done"]
theorem sc_SceneRunner_go : FnScope N_SceneRunner_go ["self", "most"] (defScope s_SceneRunner_go) := ⟨rfl, rfl, rfl, by decide +kernel, rfl, by decide +kernel, by decide +kernel⟩
theorem bb_SceneRunner_go : BindsBy "go" "SceneRunner.go" s_SceneRunner_go ["self", "most"] := fun _ _ _ _ _ _ us hl => match us, hl with | [_, _], _ => rfl
abbrev s_SceneRunner_copy : Stmt := inClass (top 68) 10
abbrev N_SceneRunner_copy : List Str := ["self", "other"]
theorem sc_SceneRunner_copy : FnScope N_SceneRunner_copy ["self"] (defScope s_SceneRunner_copy) := ⟨rfl, rfl, rfl, by decide +kernel, rfl, by decide +kernel, by decide +kernel⟩
theorem bb_SceneRunner_copy : BindsBy "copy" "SceneRunner.copy" s_SceneRunner_copy ["self"] := fun _ _ _ _ _ _ us hl => match us, hl with | [_], _ => rfl
abbrev s__law_hand : Stmt := top 70
abbrev N__law_hand : List Str := ["_law_script", "_law_cells", "_law_cell"]
theorem sc__law_hand : FnScope N__law_hand ["_law_script"] (defScope s__law_hand) := ⟨rfl, rfl, rfl, by decide +kernel, rfl, by decide +kernel, by decide +kernel⟩
theorem bb__law_hand : BindsBy "_law_hand" "_law_hand" s__law_hand ["_law_script"] := fun _ _ _ _ _ _ us hl => match us, hl with | [_], _ => rfl
abbrev s__law_draw : Stmt := top 71
abbrev N__law_draw : List Str := ["_law_hand_here", "_law_many", "_law_cell", "_law_digit", "_law_number_here"]
theorem sc__law_draw : FnScope N__law_draw ["_law_hand_here", "_law_many"] (defScope s__law_draw) := ⟨rfl, rfl, rfl, by decide +kernel, rfl, by decide +kernel, by decide +kernel⟩
theorem bb__law_draw : BindsBy "_law_draw" "_law_draw" s__law_draw ["_law_hand_here", "_law_many"] := fun _ _ _ _ _ _ us hl => match us, hl with | [_, _], _ => rfl
abbrev s__law_any : Stmt := top 72
abbrev N__law_any : List Str := ["_law_hand_here", "_law_things"]
theorem sc__law_any : FnScope N__law_any ["_law_hand_here", "_law_things"] (defScope s__law_any) := ⟨rfl, rfl, rfl, by decide +kernel, rfl, by decide +kernel, by decide +kernel⟩
theorem bb__law_any : BindsBy "_law_any" "_law_any" s__law_any ["_law_hand_here", "_law_things"] := fun _ _ _ _ _ _ us hl => match us, hl with | [_, _], _ => rfl
abbrev s__law_sum : Stmt := top 73
abbrev N__law_sum : List Str := ["_law_hand_here", "_law_cells", "_law_found", "_law_kind"]
theorem sc__law_sum : FnScope N__law_sum ["_law_hand_here", "_law_cells"] (defScope s__law_sum) := ⟨rfl, rfl, rfl, by decide +kernel, rfl, by decide +kernel, by decide +kernel⟩
theorem bb__law_sum : BindsBy "_law_sum" "_law_sum" s__law_sum ["_law_hand_here", "_law_cells"] := fun _ _ _ _ _ _ us hl => match us, hl with | [_, _], _ => rfl
abbrev s__law_test : Stmt := top 74
abbrev N__law_test : List Str := ["_law_hand_here", "_law_cells"]
theorem sc__law_test : FnScope N__law_test ["_law_hand_here", "_law_cells"] (defScope s__law_test) := ⟨rfl, rfl, rfl, by decide +kernel, rfl, by decide +kernel, by decide +kernel⟩
theorem bb__law_test : BindsBy "_law_test" "_law_test" s__law_test ["_law_hand_here", "_law_cells"] := fun _ _ _ _ _ _ us hl => match us, hl with | [_, _], _ => rfl
abbrev s__law_number : Stmt := top 75
abbrev N__law_number : List Str := ["_law_hand_here", "_law_cells", "_law_many", "_law_found"]
theorem sc__law_number : FnScope N__law_number ["_law_hand_here", "_law_cells", "_law_many"] (defScope s__law_number) := ⟨rfl, rfl, rfl, by decide +kernel, rfl, by decide +kernel, by decide +kernel⟩
theorem bb__law_number : BindsBy "_law_number" "_law_number" s__law_number ["_law_hand_here", "_law_cells", "_law_many"] := fun _ _ _ _ _ _ us hl => match us, hl with | [_, _, _], _ => rfl
abbrev s__law_statement : Stmt := top 76
abbrev N__law_statement : List Str := ["_law_hand_here", "_law_cells", "_law_routines_here", "_law_many", "_law_deep_here", "_law_kind", "_law_word_here", "_law_other"]
theorem sc__law_statement : FnScope N__law_statement ["_law_hand_here", "_law_cells", "_law_routines_here", "_law_many", "_law_deep_here"] (defScope s__law_statement) := ⟨rfl, rfl, rfl, by decide +kernel, rfl, by decide +kernel, by decide +kernel⟩
theorem bb__law_statement : BindsBy "_law_statement" "_law_statement" s__law_statement ["_law_hand_here", "_law_cells", "_law_routines_here", "_law_many", "_law_deep_here"] := fun _ _ _ _ _ _ us hl => match us, hl with | [_, _, _, _, _], _ => rfl
abbrev s__law_body : Stmt := top 77
abbrev N__law_body : List Str := ["_law_hand_here", "_law_cells", "_law_routines_here", "_law_many", "_law_deep_here", "_law_k"]
theorem sc__law_body : FnScope N__law_body ["_law_hand_here", "_law_cells", "_law_routines_here", "_law_many", "_law_deep_here"] (defScope s__law_body) := ⟨rfl, rfl, rfl, by decide +kernel, rfl, by decide +kernel, by decide +kernel⟩
theorem bb__law_body : BindsBy "_law_body" "_law_body" s__law_body ["_law_hand_here", "_law_cells", "_law_routines_here", "_law_many", "_law_deep_here"] := fun _ _ _ _ _ _ us hl => match us, hl with | [_, _, _, _, _], _ => rfl
abbrev s__law_counting : Stmt := top 78
abbrev N__law_counting : List Str := ["_law_hand_here", "_law_cells", "_law_routines_here", "_law_many", "_law_deep_here", "_law_cell", "_law_one", "_law_body_here", "_law_k"]
theorem sc__law_counting : FnScope N__law_counting ["_law_hand_here", "_law_cells", "_law_routines_here", "_law_many", "_law_deep_here"] (defScope s__law_counting) := ⟨rfl, rfl, rfl, by decide +kernel, rfl, by decide +kernel, by decide +kernel⟩
theorem bb__law_counting : BindsBy "_law_counting" "_law_counting" s__law_counting ["_law_hand_here", "_law_cells", "_law_routines_here", "_law_many", "_law_deep_here"] := fun _ _ _ _ _ _ us hl => match us, hl with | [_, _, _, _, _], _ => rfl
abbrev s__law_size : Stmt := top 79
abbrev N__law_size : List Str := ["_law_body_here", "_law_found", "_law_statement_here", "_law_inner"]
theorem sc__law_size : FnScope N__law_size ["_law_body_here"] (defScope s__law_size) := ⟨rfl, rfl, rfl, by decide +kernel, rfl, by decide +kernel, by decide +kernel⟩
theorem bb__law_size : BindsBy "_law_size" "_law_size" s__law_size ["_law_body_here"] := fun _ _ _ _ _ _ us hl => match us, hl with | [_], _ => rfl
abbrev s__law_routines : Stmt := top 80
abbrev N__law_routines : List Str := ["_law_hand_here", "_law_cells", "_law_many", "_law_count", "_law_found", "_law_number_here", "_law_body_here", "_law_k", "_law_more"]
theorem sc__law_routines : FnScope N__law_routines ["_law_hand_here", "_law_cells", "_law_many"] (defScope s__law_routines) := ⟨rfl, rfl, rfl, by decide +kernel, rfl, by decide +kernel, by decide +kernel⟩
theorem bb__law_routines : BindsBy "_law_routines" "_law_routines" s__law_routines ["_law_hand_here", "_law_cells", "_law_many"] := fun _ _ _ _ _ _ us hl => match us, hl with | [_, _, _], _ => rfl
abbrev s__law_flat : Stmt := top 81
abbrev N__law_flat : List Str := ["_law_body_here", "_law_code", "_law_statement_here", "_law_at", "_law_over"]
theorem sc__law_flat : FnScope N__law_flat ["_law_body_here", "_law_code"] (defScope s__law_flat) := ⟨rfl, rfl, rfl, by decide +kernel, rfl, by decide +kernel, by decide +kernel⟩
theorem bb__law_flat : BindsBy "_law_flat" "_law_flat" s__law_flat ["_law_body_here", "_law_code"] := fun _ _ _ _ _ _ us hl => match us, hl with | [_, _], _ => rfl
abbrev s__law_codes : Stmt := top 82
abbrev N__law_codes : List Str := ["_law_routines_here", "_law_found", "_law_body_here", "_law_code"]
theorem sc__law_codes : FnScope N__law_codes ["_law_routines_here"] (defScope s__law_codes) := ⟨rfl, rfl, rfl, by decide +kernel, rfl, by decide +kernel, by decide +kernel⟩
theorem bb__law_codes : BindsBy "_law_codes" "_law_codes" s__law_codes ["_law_routines_here"] := fun _ _ _ _ _ _ us hl => match us, hl with | [_], _ => rfl
abbrev s__law_settled : Stmt := top 83
abbrev N__law_settled : List Str := ["_law_codes_here", "_law_stack", "_law_routine", "_law_place", "_law_item"]
theorem sc__law_settled : FnScope N__law_settled ["_law_codes_here", "_law_stack"] (defScope s__law_settled) := ⟨rfl, rfl, rfl, by decide +kernel, rfl, by decide +kernel, by decide +kernel⟩
theorem bb__law_settled : BindsBy "_law_settled" "_law_settled" s__law_settled ["_law_codes_here", "_law_stack"] := fun _ _ _ _ _ _ us hl => match us, hl with | [_, _], _ => rfl
abbrev s__law_begun : Stmt := top 84
abbrev N__law_begun : List Str := ["_law_codes_here", "_law_begins", "_law_many"]
theorem sc__law_begun : FnScope N__law_begun ["_law_codes_here", "_law_begins", "_law_many"] (defScope s__law_begun) := ⟨rfl, rfl, rfl, by decide +kernel, rfl, by decide +kernel, by decide +kernel⟩
theorem bb__law_begun : BindsBy "_law_begun" "_law_begun" s__law_begun ["_law_codes_here", "_law_begins", "_law_many"] := fun _ _ _ _ _ _ us hl => match us, hl with | [_, _, _], _ => rfl
abbrev s__law_worth : Stmt := top 85
abbrev N__law_worth : List Str := ["_law_summed", "_law_held", "_law_k"]
theorem sc__law_worth : FnScope N__law_worth ["_law_summed", "_law_held"] (defScope s__law_worth) := ⟨rfl, rfl, rfl, by decide +kernel, rfl, by decide +kernel, by decide +kernel⟩
theorem bb__law_worth : BindsBy "_law_worth" "_law_worth" s__law_worth ["_law_summed", "_law_held"] := fun _ _ _ _ _ _ us hl => match us, hl with | [_, _], _ => rfl
abbrev s__law_coming : Stmt := top 86
abbrev N__law_coming : List Str := ["_law_codes_here", "_law_state", "_law_routine", "_law_place"]
theorem sc__law_coming : FnScope N__law_coming ["_law_codes_here", "_law_state"] (defScope s__law_coming) := ⟨rfl, rfl, rfl, by decide +kernel, rfl, by decide +kernel, by decide +kernel⟩
theorem bb__law_coming : BindsBy "_law_coming" "_law_coming" s__law_coming ["_law_codes_here", "_law_state"] := fun _ _ _ _ _ _ us hl => match us, hl with | [_, _], _ => rfl
abbrev s__law_word : Stmt := top 87
abbrev N__law_word : List Str := ["_law_codes_here", "_law_sizes_here", "_law_state", "_law_statement_here", "_law_box"]
theorem sc__law_word : FnScope N__law_word ["_law_codes_here", "_law_sizes_here", "_law_state"] (defScope s__law_word) := ⟨rfl, rfl, rfl, by decide +kernel, rfl, by decide +kernel, by decide +kernel⟩
theorem bb__law_word : BindsBy "_law_word" "_law_word" s__law_word ["_law_codes_here", "_law_sizes_here", "_law_state"] := fun _ _ _ _ _ _ us hl => match us, hl with | [_, _, _], _ => rfl
abbrev s__law_stepped : Stmt := top 88
abbrev N__law_stepped : List Str := ["_law_codes_here", "_law_sizes_here", "_law_state", "_law_stack", "_law_held", "_law_put", "_law_routine", "_law_place", "_law_item", "_law_one", "_law_other", "_law_goes", "_law_statement_here", "_law_box", "_law_there", "_law_cell", "_law_worth_here"]
theorem sc__law_stepped : FnScope N__law_stepped ["_law_codes_here", "_law_sizes_here", "_law_state"] (defScope s__law_stepped) := ⟨rfl, rfl, rfl, by decide +kernel, rfl, by decide +kernel, by decide +kernel⟩
theorem bb__law_stepped : BindsBy "_law_stepped" "_law_stepped" s__law_stepped ["_law_codes_here", "_law_sizes_here", "_law_state"] := fun _ _ _ _ _ _ us hl => match us, hl with | [_, _, _], _ => rfl
abbrev s__law_asked : Stmt := top 89
abbrev N__law_asked : List Str := ["_law_sizes_here", "_law_statement_here", "_law_held", "_law_put", "_law_box"]
theorem sc__law_asked : FnScope N__law_asked ["_law_sizes_here", "_law_statement_here", "_law_held", "_law_put"] (defScope s__law_asked) := ⟨rfl, rfl, rfl, by decide +kernel, rfl, by decide +kernel, by decide +kernel⟩
theorem bb__law_asked : BindsBy "_law_asked" "_law_asked" s__law_asked ["_law_sizes_here", "_law_statement_here", "_law_held", "_law_put"] := fun _ _ _ _ _ _ us hl => match us, hl with | [_, _, _, _], _ => rfl
abbrev s__law_sizes : Stmt := top 90
abbrev N__law_sizes : List Str := ["_law_hand_here", "_law_most", "_law_alike", "_law_found", "_law_k", "_law_size_here"]
theorem sc__law_sizes : FnScope N__law_sizes ["_law_hand_here", "_law_most"] (defScope s__law_sizes) := ⟨rfl, rfl, rfl, by decide +kernel, rfl, by decide +kernel, by decide +kernel⟩
theorem bb__law_sizes : BindsBy "_law_sizes" "_law_sizes" s__law_sizes ["_law_hand_here", "_law_most"] := fun _ _ _ _ _ _ us hl => match us, hl with | [_, _], _ => rfl
abbrev s__law_deep : Stmt := top 91
abbrev N__law_deep : List Str := ["_law_hand_here", "_law_found", "_law_turn"]
theorem sc__law_deep : FnScope N__law_deep ["_law_hand_here"] (defScope s__law_deep) := ⟨rfl, rfl, rfl, by decide +kernel, rfl, by decide +kernel, by decide +kernel⟩
theorem bb__law_deep : BindsBy "_law_deep" "_law_deep" s__law_deep ["_law_hand_here"] := fun _ _ _ _ _ _ us hl => match us, hl with | [_], _ => rfl
abbrev s__law_laid : Stmt := top 92
abbrev N__law_laid : List Str := ["_law_hand_here", "_law_cells", "_law_sizes_here", "_law_routines_here", "_law_rows", "_law_gap", "_law_here", "_law_out", "_law_box", "_law_place"]
theorem sc__law_laid : FnScope N__law_laid ["_law_hand_here", "_law_cells", "_law_sizes_here", "_law_routines_here"] (defScope s__law_laid) := ⟨rfl, rfl, rfl, by decide +kernel, rfl, by decide +kernel, by decide +kernel⟩
theorem bb__law_laid : BindsBy "_law_laid" "_law_laid" s__law_laid ["_law_hand_here", "_law_cells", "_law_sizes_here", "_law_routines_here"] := fun _ _ _ _ _ _ us hl => match us, hl with | [_, _, _, _], _ => rfl
abbrev s__law_is_right : Stmt := top 93
abbrev N__law_is_right : List Str := ["_law_runner", "_law_codes_here", "_law_sizes_here", "_law_trail", "_law_state", "_law_routine", "_law_place"]
theorem sc__law_is_right : FnScope N__law_is_right ["_law_runner", "_law_codes_here", "_law_sizes_here", "_law_trail"] (defScope s__law_is_right) := ⟨rfl, rfl, rfl, by decide +kernel, rfl, by decide +kernel, by decide +kernel⟩
theorem bb__law_is_right : BindsBy "_law_is_right" "_law_is_right" s__law_is_right ["_law_runner", "_law_codes_here", "_law_sizes_here", "_law_trail"] := fun _ _ _ _ _ _ us hl => match us, hl with | [_, _, _, _], _ => rfl
abbrev s__law_did : Stmt := top 94
abbrev N__law_did : List Str := ["_law_runner", "_law_which", "_law_most", "_law_found"]
theorem sc__law_did : FnScope N__law_did ["_law_runner", "_law_which", "_law_most"] (defScope s__law_did) := ⟨rfl, rfl, rfl, by decide +kernel, rfl, by decide +kernel, by decide +kernel⟩
theorem bb__law_did : BindsBy "_law_did" "_law_did" s__law_did ["_law_runner", "_law_which", "_law_most"] := fun _ _ _ _ _ _ us hl => match us, hl with | [_, _, _], _ => rfl
abbrev s__law_gone : Stmt := top 95
abbrev N__law_gone : List Str := ["_law_codes_here", "_law_sizes_here", "_law_trail", "_law_most", "_law_found", "_law_turn"]
theorem sc__law_gone : FnScope N__law_gone ["_law_codes_here", "_law_sizes_here", "_law_trail", "_law_most"] (defScope s__law_gone) := ⟨rfl, rfl, rfl, by decide +kernel, rfl, by decide +kernel, by decide +kernel⟩
theorem bb__law_gone : BindsBy "_law_gone" "_law_gone" s__law_gone ["_law_codes_here", "_law_sizes_here", "_law_trail", "_law_most"] := fun _ _ _ _ _ _ us hl => match us, hl with | [_, _, _, _], _ => rfl
abbrev s__law_deed : Stmt := top 96
abbrev N__law_deed : List Str := ["_law_hand_here", "_law_runner", "_law_codes_here", "_law_sizes_here", "_law_trail", "_law_which", "_law_most", "_law_due", "_law_later", "_law_found"]
theorem sc__law_deed : FnScope N__law_deed ["_law_hand_here", "_law_runner", "_law_codes_here", "_law_sizes_here", "_law_trail"] (defScope s__law_deed) := ⟨rfl, rfl, rfl, by decide +kernel, rfl, by decide +kernel, by decide +kernel⟩
theorem bb__law_deed : BindsBy "_law_deed" "_law_deed" s__law_deed ["_law_hand_here", "_law_runner", "_law_codes_here", "_law_sizes_here", "_law_trail"] := fun _ _ _ _ _ _ us hl => match us, hl with | [_, _, _, _, _], _ => rfl
abbrev s__law_is_refused : Stmt := top 97
abbrev N__law_is_refused : List Str := ["_law_scene", "_law_boxes", "_law_begins"]
theorem sc__law_is_refused : FnScope N__law_is_refused ["_law_scene", "_law_boxes", "_law_begins"] (defScope s__law_is_refused) := ⟨rfl, rfl, rfl, by decide +kernel, rfl, by decide +kernel, by decide +kernel⟩
theorem bb__law_is_refused : BindsBy "_law_is_refused" "_law_is_refused" s__law_is_refused ["_law_scene", "_law_boxes", "_law_begins"] := fun _ _ _ _ _ _ us hl => match us, hl with | [_, _, _], _ => rfl
abbrev s_law : Stmt := top 98
abbrev N_law : List Str := ["_law_script", "_law_hand_here", "_law_turn", "_law_cells", "_law_sizes_here", "_law_routines_here", "_law_codes_here", "_law_begins", "_law_scene", "_law_boxes", "_law_bad", "_law_runner", "_law_trail", "_law_again", "_law_other", "_law_apart", "_law_k"]
theorem sc_law : FnScope N_law ["_law_script"] (defScope s_law) := ⟨rfl, rfl, rfl, by decide +kernel, rfl, by decide +kernel, by decide +kernel⟩
theorem bb_law : BindsBy "law" "law" s_law ["_law_script"] := fun _ _ _ _ _ _ us hl => match us, hl with | [_], _ => rfl
theorem bv_sum : bootBuiltins "sum" = some (.builtin "sum") := by decide +kernel
theorem bv_all : bootBuiltins "all" = some (.builtin "all") := by decide +kernel
theorem bv_abs : bootBuiltins "abs" = some (.builtin "abs") := by decide +kernel
theorem bv_min : bootBuiltins "min" = some (.builtin "min") := by decide +kernel
theorem bv_isinstance : bootBuiltins "isinstance" = some (.builtin "isinstance") := by decide +kernel
theorem bv_int : bootBuiltins "int" = some (.type "int") := by decide +kernel
theorem bv_tuple : bootBuiltins "tuple" = some (.type "tuple") := by decide +kernel
theorem bv_list : bootBuiltins "list" = some (.type "list") := by decide +kernel
theorem bv_bool : bootBuiltins "bool" = some (.type "bool") := by decide +kernel
theorem bv_str : bootBuiltins "str" = some (.type "str") := by decide +kernel
/-- an own exception class without __init__ -/
structure XF (K : PySem.W.Frag) (C : Addr) : Prop where
  x : PySem.W.excIn K C [.type "ValueError", .type "Exception", .type "BaseException", .type "object"] "ValueError.__new__" = true
  k : PySem.W.keepIn K (.ref C) = true
  b : PySem.W.subIn K (.ref C) (.type "BaseException") = some true
  t : PySem.W.typeIn K (.ref C) = some (.type "type")
/-- the table PARTS as the top leaves it -/
structure PartsAt (K : PySem.W.Frag) (w : World) (a : Addr) : Prop where
  d : ∃ es n, KDict K w a es n
  v : ∀ q ∈ ([("set", 3), ("put", 4), ("ask", 4), ("call", 2), ("if", 4), ("while", 3)] : List (Str × Int)), ∃ u, PySem.W.nsIn K a q.1 = some (some u) ∧ RelV (.int q.2) u
/-- WHAT THE TOP LEAVES -/
structure Facts (w : World) (K : PySem.W.Frag) (mg : Str → Option Value) : Prop where
  g_Boxes : mg "Boxes" = some (.ref (ga K "Boxes"))
  g_Scene : mg "Scene" = some (.ref (ga K "Scene"))
  g_Standing : mg "Standing" = some (.ref (ga K "Standing"))
  g_SceneRunner : mg "SceneRunner" = some (.ref (ga K "SceneRunner"))
  g_NoNumber : mg "NoNumber" = some (.ref (ga K "NoNumber"))
  g_NoContents : mg "NoContents" = some (.ref (ga K "NoContents"))
  g_NotRunning : mg "NotRunning" = some (.ref (ga K "NotRunning"))
  g_NothingDone : mg "NothingDone" = some (.ref (ga K "NothingDone"))
  g_ASKED : mg "ASKED" = some (.ref (ga K "ASKED"))
  g_PARTS : mg "PARTS" = some (.ref (ga K "PARTS"))
  d_is_integer : DefAt K mg "is_integer" s_is_integer
  d_is_within : DefAt K mg "is_within" s_is_within
  d_is_below : DefAt K mg "is_below" s_is_below
  d_is_pair : DefAt K mg "is_pair" s_is_pair
  d_is_sized : DefAt K mg "is_sized" s_is_sized
  d_are_integers : DefAt K mg "are_integers" s_are_integers
  d_check_number : DefAt K mg "check_number" s_check_number
  d_is_size : DefAt K mg "is_size" s_is_size
  d_Boxes___init__ : MetAt K (ga K "Boxes") "__init__" "Boxes.__init__" s_Boxes___init__
  d_is_sum : DefAt K mg "is_sum" s_is_sum
  d_is_test : DefAt K mg "is_test" s_is_test
  d_is_plain : DefAt K mg "is_plain" s_is_plain
  d_statement_size : DefAt K mg "statement_size" s_statement_size
  d_body_size : DefAt K mg "body_size" s_body_size
  d_wrong_part : DefAt K mg "wrong_part" s_wrong_part
  d_Scene___init__ : MetAt K (ga K "Scene") "__init__" "Scene.__init__" s_Scene___init__
  d_value_of : DefAt K mg "value_of" s_value_of
  d_does_hold : DefAt K mg "does_hold" s_does_hold
  d_are_contents : DefAt K mg "are_contents" s_are_contents
  d_settled : DefAt K mg "settled" s_settled
  d_onward : DefAt K mg "onward" s_onward
  d_next_of : DefAt K mg "next_of" s_next_of
  d_walked_on : DefAt K mg "walked_on" s_walked_on
  d_Standing___init__ : MetAt K (ga K "Standing") "__init__" "Standing.__init__" s_Standing___init__
  d_begun : DefAt K mg "begun" s_begun
  d_is_done : DefAt K mg "is_done" s_is_done
  d_word_of : DefAt K mg "word_of" s_word_of
  d_asked_of : DefAt K mg "asked_of" s_asked_of
  d_changed : DefAt K mg "changed" s_changed
  d_behind_step : DefAt K mg "behind_step" s_behind_step
  d_SceneRunner___init__ : MetAt K (ga K "SceneRunner") "__init__" "SceneRunner.__init__" s_SceneRunner___init__
  d_SceneRunner_word : MetAt K (ga K "SceneRunner") "word" "SceneRunner.word" s_SceneRunner_word
  d_SceneRunner_coming : MetAt K (ga K "SceneRunner") "coming" "SceneRunner.coming" s_SceneRunner_coming
  d_SceneRunner_opened : MetAt K (ga K "SceneRunner") "opened" "SceneRunner.opened" s_SceneRunner_opened
  d_SceneRunner_contents : MetAt K (ga K "SceneRunner") "contents" "SceneRunner.contents" s_SceneRunner_contents
  d_SceneRunner_places : MetAt K (ga K "SceneRunner") "places" "SceneRunner.places" s_SceneRunner_places
  d_SceneRunner_step : MetAt K (ga K "SceneRunner") "step" "SceneRunner.step" s_SceneRunner_step
  d_SceneRunner_back : MetAt K (ga K "SceneRunner") "back" "SceneRunner.back" s_SceneRunner_back
  d_SceneRunner_steps : MetAt K (ga K "SceneRunner") "steps" "SceneRunner.steps" s_SceneRunner_steps
  d_SceneRunner_go : MetAt K (ga K "SceneRunner") "go" "SceneRunner.go" s_SceneRunner_go
  d_SceneRunner_copy : MetAt K (ga K "SceneRunner") "copy" "SceneRunner.copy" s_SceneRunner_copy
  d__law_hand : DefAt K mg "_law_hand" s__law_hand
  d__law_draw : DefAt K mg "_law_draw" s__law_draw
  d__law_any : DefAt K mg "_law_any" s__law_any
  d__law_sum : DefAt K mg "_law_sum" s__law_sum
  d__law_test : DefAt K mg "_law_test" s__law_test
  d__law_number : DefAt K mg "_law_number" s__law_number
  d__law_statement : DefAt K mg "_law_statement" s__law_statement
  d__law_body : DefAt K mg "_law_body" s__law_body
  d__law_counting : DefAt K mg "_law_counting" s__law_counting
  d__law_size : DefAt K mg "_law_size" s__law_size
  d__law_routines : DefAt K mg "_law_routines" s__law_routines
  d__law_flat : DefAt K mg "_law_flat" s__law_flat
  d__law_codes : DefAt K mg "_law_codes" s__law_codes
  d__law_settled : DefAt K mg "_law_settled" s__law_settled
  d__law_begun : DefAt K mg "_law_begun" s__law_begun
  d__law_worth : DefAt K mg "_law_worth" s__law_worth
  d__law_coming : DefAt K mg "_law_coming" s__law_coming
  d__law_word : DefAt K mg "_law_word" s__law_word
  d__law_stepped : DefAt K mg "_law_stepped" s__law_stepped
  d__law_asked : DefAt K mg "_law_asked" s__law_asked
  d__law_sizes : DefAt K mg "_law_sizes" s__law_sizes
  d__law_deep : DefAt K mg "_law_deep" s__law_deep
  d__law_laid : DefAt K mg "_law_laid" s__law_laid
  d__law_is_right : DefAt K mg "_law_is_right" s__law_is_right
  d__law_did : DefAt K mg "_law_did" s__law_did
  d__law_gone : DefAt K mg "_law_gone" s__law_gone
  d__law_deed : DefAt K mg "_law_deed" s__law_deed
  d__law_is_refused : DefAt K mg "_law_is_refused" s__law_is_refused
  d_law : DefAt K mg "law" s_law
  cl_Boxes : Cls K (ga K "Boxes")
  mk_Boxes : Mk K (ga K "Boxes") (ma K (ga K "Boxes") "__init__")
  cl_Scene : Cls K (ga K "Scene")
  mk_Scene : Mk K (ga K "Scene") (ma K (ga K "Scene") "__init__")
  cl_Standing : Cls K (ga K "Standing")
  mk_Standing : Mk K (ga K "Standing") (ma K (ga K "Standing") "__init__")
  cl_SceneRunner : Cls K (ga K "SceneRunner")
  mk_SceneRunner : Mk K (ga K "SceneRunner") (ma K (ga K "SceneRunner") "__init__")
  na_Boxes_sizes : NoAttr K (ga K "Boxes") "sizes"
  na_Boxes_many : NoAttr K (ga K "Boxes") "many"
  na_Scene_cells : NoAttr K (ga K "Scene") "cells"
  na_Scene_routines : NoAttr K (ga K "Scene") "routines"
  na_Standing_open_routines : NoAttr K (ga K "Standing") "open_routines"
  na_Standing_held : NoAttr K (ga K "Standing") "held"
  na_Standing_put : NoAttr K (ga K "Standing") "put"
  na_SceneRunner_scene : NoAttr K (ga K "SceneRunner") "scene"
  na_SceneRunner_sized : NoAttr K (ga K "SceneRunner") "sized"
  na_SceneRunner_past : NoAttr K (ga K "SceneRunner") "past"
  x_NoNumber : XF K (ga K "NoNumber")
  x_NoContents : XF K (ga K "NoContents")
  x_NotRunning : XF K (ga K "NotRunning")
  x_NothingDone : XF K (ga K "NothingDone")
  m_NotRunning_NotRunning : PySem.W.exmOne K (.ref (ga K "NotRunning")) (.ref (ga K "NotRunning")) = some true
  m_NothingDone_NotRunning : PySem.W.exmOne K (.ref (ga K "NothingDone")) (.ref (ga K "NotRunning")) = some false
  m_NothingDone_NothingDone : PySem.W.exmOne K (.ref (ga K "NothingDone")) (.ref (ga K "NothingDone")) = some true
  m_NoNumber_NotRunning : PySem.W.exmOne K (.ref (ga K "NoNumber")) (.ref (ga K "NotRunning")) = some false
  m_NoNumber_NothingDone : PySem.W.exmOne K (.ref (ga K "NoNumber")) (.ref (ga K "NothingDone")) = some false
  m_NoNumber_NoNumber : PySem.W.exmOne K (.ref (ga K "NoNumber")) (.ref (ga K "NoNumber")) = some true
  m_NoContents_NoContents : PySem.W.exmOne K (.ref (ga K "NoContents")) (.ref (ga K "NoContents")) = some true
  c_SET : GStr mg "SET" "set"
  c_PUT : GStr mg "PUT" "put"
  c_ASK : GStr mg "ASK" "ask"
  c_CALL : GStr mg "CALL" "call"
  c_IF : GStr mg "IF" "if"
  c_WHILE : GStr mg "WHILE" "while"
  c_LESS : GStr mg "LESS" "less"
  c_SAME : GStr mg "SAME" "same"
  c_WIDTH : GStr mg "WIDTH" "width"
  c_HEIGHT : GStr mg "HEIGHT" "height"
  c_LEFT : GStr mg "LEFT" "left"
  c_TOP : GStr mg "TOP" "top"
  c_RUNS : GStr mg "RUNS" "runs"
  c_OVER : GStr mg "OVER" "over"
  c_FAULT : GStr mg "FAULT" "fault"
  c_MOST_BOXES : GInt mg "MOST_BOXES" 40
  c_MOST_SIZE : GInt mg "MOST_SIZE" 1000
  c_MOST_CELLS : GInt mg "MOST_CELLS" 5
  c_MOST_ROUTINES : GInt mg "MOST_ROUTINES" 5
  c_MOST_DEEP : GInt mg "MOST_DEEP" 8
  c_MOST_STATEMENTS : GInt mg "MOST_STATEMENTS" 60
  c_MOST_MULTIPLE : GInt mg "MOST_MULTIPLE" 1000
  c_MOST_OPEN : GInt mg "MOST_OPEN" 20
  c_MOST_STEPS : GInt mg "MOST_STEPS" 5000
  b_len : mg "len" = none
  b_sum : mg "sum" = none
  b_all : mg "all" = none
  b_abs : mg "abs" = none
  b_min : mg "min" = none
  b_isinstance : mg "isinstance" = none
  b_int : mg "int" = none
  b_tuple : mg "tuple" = none
  b_list : mg "list" = none
  b_bool : mg "bool" = none
  b_str : mg "str" = none
  b_range : mg "range" = none
  b_enumerate : mg "enumerate" = none
  b_zip : mg "zip" = none
  asked : ∀ H : Hp, SqT K H (ga K "ASKED") [.str "width", .str "height", .str "left", .str "top"]
  parts : PartsAt K w (ga K "PARTS")
end K34

set_option Elab.async false
set_option linter.all false
set_option maxRecDepth 100000
set_option maxHeartbeats 0
/-! the head's facts (printed by gen.py k1) -/
namespace K34
open PySem PySem.Spec PyProof.Rows L2
open He (ga ma ba)
def dD_is_integer : He.DefD := ⟨("is_integer", none), "is_integer", "is_integer", defArgs s_is_integer, defBody s_is_integer, defScope s_is_integer, [], []⟩
def dD_is_within : He.DefD := ⟨("is_within", none), "is_within", "is_within", defArgs s_is_within, defBody s_is_within, defScope s_is_within, [], []⟩
def dD_is_below : He.DefD := ⟨("is_below", none), "is_below", "is_below", defArgs s_is_below, defBody s_is_below, defScope s_is_below, [], []⟩
def dD_is_pair : He.DefD := ⟨("is_pair", none), "is_pair", "is_pair", defArgs s_is_pair, defBody s_is_pair, defScope s_is_pair, [], []⟩
def dD_is_sized : He.DefD := ⟨("is_sized", none), "is_sized", "is_sized", defArgs s_is_sized, defBody s_is_sized, defScope s_is_sized, [], []⟩
def dD_are_integers : He.DefD := ⟨("are_integers", none), "are_integers", "are_integers", defArgs s_are_integers, defBody s_are_integers, defScope s_are_integers, [], []⟩
def dD_check_number : He.DefD := ⟨("check_number", none), "check_number", "check_number", defArgs s_check_number, defBody s_check_number, defScope s_check_number, [], []⟩
def dD_is_size : He.DefD := ⟨("is_size", none), "is_size", "is_size", defArgs s_is_size, defBody s_is_size, defScope s_is_size, [], []⟩
def dD_Boxes___init__ : He.DefD := ⟨("Boxes", some "__init__"), "__init__", "Boxes.__init__", defArgs s_Boxes___init__, defBody s_Boxes___init__, defScope s_Boxes___init__, [], []⟩
def dD_is_sum : He.DefD := ⟨("is_sum", none), "is_sum", "is_sum", defArgs s_is_sum, defBody s_is_sum, defScope s_is_sum, [], []⟩
def dD_is_test : He.DefD := ⟨("is_test", none), "is_test", "is_test", defArgs s_is_test, defBody s_is_test, defScope s_is_test, [], []⟩
def dD_is_plain : He.DefD := ⟨("is_plain", none), "is_plain", "is_plain", defArgs s_is_plain, defBody s_is_plain, defScope s_is_plain, [], []⟩
def dD_statement_size : He.DefD := ⟨("statement_size", none), "statement_size", "statement_size", defArgs s_statement_size, defBody s_statement_size, defScope s_statement_size, [], []⟩
def dD_body_size : He.DefD := ⟨("body_size", none), "body_size", "body_size", defArgs s_body_size, defBody s_body_size, defScope s_body_size, [], []⟩
def dD_wrong_part : He.DefD := ⟨("wrong_part", none), "wrong_part", "wrong_part", defArgs s_wrong_part, defBody s_wrong_part, defScope s_wrong_part, [], []⟩
def dD_Scene___init__ : He.DefD := ⟨("Scene", some "__init__"), "__init__", "Scene.__init__", defArgs s_Scene___init__, defBody s_Scene___init__, defScope s_Scene___init__, [], []⟩
def dD_value_of : He.DefD := ⟨("value_of", none), "value_of", "value_of", defArgs s_value_of, defBody s_value_of, defScope s_value_of, [], []⟩
def dD_does_hold : He.DefD := ⟨("does_hold", none), "does_hold", "does_hold", defArgs s_does_hold, defBody s_does_hold, defScope s_does_hold, [], []⟩
def dD_are_contents : He.DefD := ⟨("are_contents", none), "are_contents", "are_contents", defArgs s_are_contents, defBody s_are_contents, defScope s_are_contents, [], []⟩
def dD_settled : He.DefD := ⟨("settled", none), "settled", "settled", defArgs s_settled, defBody s_settled, defScope s_settled, [], []⟩
def dD_onward : He.DefD := ⟨("onward", none), "onward", "onward", defArgs s_onward, defBody s_onward, defScope s_onward, [], []⟩
def dD_next_of : He.DefD := ⟨("next_of", none), "next_of", "next_of", defArgs s_next_of, defBody s_next_of, defScope s_next_of, [], []⟩
def dD_walked_on : He.DefD := ⟨("walked_on", none), "walked_on", "walked_on", defArgs s_walked_on, defBody s_walked_on, defScope s_walked_on, [], []⟩
def dD_Standing___init__ : He.DefD := ⟨("Standing", some "__init__"), "__init__", "Standing.__init__", defArgs s_Standing___init__, defBody s_Standing___init__, defScope s_Standing___init__, [], []⟩
def dD_begun : He.DefD := ⟨("begun", none), "begun", "begun", defArgs s_begun, defBody s_begun, defScope s_begun, [], []⟩
def dD_is_done : He.DefD := ⟨("is_done", none), "is_done", "is_done", defArgs s_is_done, defBody s_is_done, defScope s_is_done, [], []⟩
def dD_word_of : He.DefD := ⟨("word_of", none), "word_of", "word_of", defArgs s_word_of, defBody s_word_of, defScope s_word_of, [], []⟩
def dD_asked_of : He.DefD := ⟨("asked_of", none), "asked_of", "asked_of", defArgs s_asked_of, defBody s_asked_of, defScope s_asked_of, [], []⟩
def dD_changed : He.DefD := ⟨("changed", none), "changed", "changed", defArgs s_changed, defBody s_changed, defScope s_changed, [], []⟩
def dD_behind_step : He.DefD := ⟨("behind_step", none), "behind_step", "behind_step", defArgs s_behind_step, defBody s_behind_step, defScope s_behind_step, [], []⟩
def dD_SceneRunner___init__ : He.DefD := ⟨("SceneRunner", some "__init__"), "__init__", "SceneRunner.__init__", defArgs s_SceneRunner___init__, defBody s_SceneRunner___init__, defScope s_SceneRunner___init__, [], []⟩
def dD_SceneRunner_word : He.DefD := ⟨("SceneRunner", some "word"), "word", "SceneRunner.word", defArgs s_SceneRunner_word, defBody s_SceneRunner_word, defScope s_SceneRunner_word, [], []⟩
def dD_SceneRunner_coming : He.DefD := ⟨("SceneRunner", some "coming"), "coming", "SceneRunner.coming", defArgs s_SceneRunner_coming, defBody s_SceneRunner_coming, defScope s_SceneRunner_coming, [], []⟩
def dD_SceneRunner_opened : He.DefD := ⟨("SceneRunner", some "opened"), "opened", "SceneRunner.opened", defArgs s_SceneRunner_opened, defBody s_SceneRunner_opened, defScope s_SceneRunner_opened, [], []⟩
def dD_SceneRunner_contents : He.DefD := ⟨("SceneRunner", some "contents"), "contents", "SceneRunner.contents", defArgs s_SceneRunner_contents, defBody s_SceneRunner_contents, defScope s_SceneRunner_contents, [], []⟩
def dD_SceneRunner_places : He.DefD := ⟨("SceneRunner", some "places"), "places", "SceneRunner.places", defArgs s_SceneRunner_places, defBody s_SceneRunner_places, defScope s_SceneRunner_places, [], []⟩
def dD_SceneRunner_step : He.DefD := ⟨("SceneRunner", some "step"), "step", "SceneRunner.step", defArgs s_SceneRunner_step, defBody s_SceneRunner_step, defScope s_SceneRunner_step, [], []⟩
def dD_SceneRunner_back : He.DefD := ⟨("SceneRunner", some "back"), "back", "SceneRunner.back", defArgs s_SceneRunner_back, defBody s_SceneRunner_back, defScope s_SceneRunner_back, [], []⟩
def dD_SceneRunner_steps : He.DefD := ⟨("SceneRunner", some "steps"), "steps", "SceneRunner.steps", defArgs s_SceneRunner_steps, defBody s_SceneRunner_steps, defScope s_SceneRunner_steps, [], []⟩
def dD_SceneRunner_go : He.DefD := ⟨("SceneRunner", some "go"), "go", "SceneRunner.go", defArgs s_SceneRunner_go, defBody s_SceneRunner_go, defScope s_SceneRunner_go, [], []⟩
def dD_SceneRunner_copy : He.DefD := ⟨("SceneRunner", some "copy"), "copy", "SceneRunner.copy", defArgs s_SceneRunner_copy, defBody s_SceneRunner_copy, defScope s_SceneRunner_copy, [], []⟩
def dD__law_hand : He.DefD := ⟨("_law_hand", none), "_law_hand", "_law_hand", defArgs s__law_hand, defBody s__law_hand, defScope s__law_hand, [], []⟩
def dD__law_draw : He.DefD := ⟨("_law_draw", none), "_law_draw", "_law_draw", defArgs s__law_draw, defBody s__law_draw, defScope s__law_draw, [], []⟩
def dD__law_any : He.DefD := ⟨("_law_any", none), "_law_any", "_law_any", defArgs s__law_any, defBody s__law_any, defScope s__law_any, [], []⟩
def dD__law_sum : He.DefD := ⟨("_law_sum", none), "_law_sum", "_law_sum", defArgs s__law_sum, defBody s__law_sum, defScope s__law_sum, [], []⟩
def dD__law_test : He.DefD := ⟨("_law_test", none), "_law_test", "_law_test", defArgs s__law_test, defBody s__law_test, defScope s__law_test, [], []⟩
def dD__law_number : He.DefD := ⟨("_law_number", none), "_law_number", "_law_number", defArgs s__law_number, defBody s__law_number, defScope s__law_number, [], []⟩
def dD__law_statement : He.DefD := ⟨("_law_statement", none), "_law_statement", "_law_statement", defArgs s__law_statement, defBody s__law_statement, defScope s__law_statement, [], []⟩
def dD__law_body : He.DefD := ⟨("_law_body", none), "_law_body", "_law_body", defArgs s__law_body, defBody s__law_body, defScope s__law_body, [], []⟩
def dD__law_counting : He.DefD := ⟨("_law_counting", none), "_law_counting", "_law_counting", defArgs s__law_counting, defBody s__law_counting, defScope s__law_counting, [], []⟩
def dD__law_size : He.DefD := ⟨("_law_size", none), "_law_size", "_law_size", defArgs s__law_size, defBody s__law_size, defScope s__law_size, [], []⟩
def dD__law_routines : He.DefD := ⟨("_law_routines", none), "_law_routines", "_law_routines", defArgs s__law_routines, defBody s__law_routines, defScope s__law_routines, [], []⟩
def dD__law_flat : He.DefD := ⟨("_law_flat", none), "_law_flat", "_law_flat", defArgs s__law_flat, defBody s__law_flat, defScope s__law_flat, [], []⟩
def dD__law_codes : He.DefD := ⟨("_law_codes", none), "_law_codes", "_law_codes", defArgs s__law_codes, defBody s__law_codes, defScope s__law_codes, [], []⟩
def dD__law_settled : He.DefD := ⟨("_law_settled", none), "_law_settled", "_law_settled", defArgs s__law_settled, defBody s__law_settled, defScope s__law_settled, [], []⟩
def dD__law_begun : He.DefD := ⟨("_law_begun", none), "_law_begun", "_law_begun", defArgs s__law_begun, defBody s__law_begun, defScope s__law_begun, [], []⟩
def dD__law_worth : He.DefD := ⟨("_law_worth", none), "_law_worth", "_law_worth", defArgs s__law_worth, defBody s__law_worth, defScope s__law_worth, [], []⟩
def dD__law_coming : He.DefD := ⟨("_law_coming", none), "_law_coming", "_law_coming", defArgs s__law_coming, defBody s__law_coming, defScope s__law_coming, [], []⟩
def dD__law_word : He.DefD := ⟨("_law_word", none), "_law_word", "_law_word", defArgs s__law_word, defBody s__law_word, defScope s__law_word, [], []⟩
def dD__law_stepped : He.DefD := ⟨("_law_stepped", none), "_law_stepped", "_law_stepped", defArgs s__law_stepped, defBody s__law_stepped, defScope s__law_stepped, [], []⟩
def dD__law_asked : He.DefD := ⟨("_law_asked", none), "_law_asked", "_law_asked", defArgs s__law_asked, defBody s__law_asked, defScope s__law_asked, [], []⟩
def dD__law_sizes : He.DefD := ⟨("_law_sizes", none), "_law_sizes", "_law_sizes", defArgs s__law_sizes, defBody s__law_sizes, defScope s__law_sizes, [], []⟩
def dD__law_deep : He.DefD := ⟨("_law_deep", none), "_law_deep", "_law_deep", defArgs s__law_deep, defBody s__law_deep, defScope s__law_deep, [], []⟩
def dD__law_laid : He.DefD := ⟨("_law_laid", none), "_law_laid", "_law_laid", defArgs s__law_laid, defBody s__law_laid, defScope s__law_laid, [], []⟩
def dD__law_is_right : He.DefD := ⟨("_law_is_right", none), "_law_is_right", "_law_is_right", defArgs s__law_is_right, defBody s__law_is_right, defScope s__law_is_right, [], []⟩
def dD__law_did : He.DefD := ⟨("_law_did", none), "_law_did", "_law_did", defArgs s__law_did, defBody s__law_did, defScope s__law_did, [], []⟩
def dD__law_gone : He.DefD := ⟨("_law_gone", none), "_law_gone", "_law_gone", defArgs s__law_gone, defBody s__law_gone, defScope s__law_gone, [], []⟩
def dD__law_deed : He.DefD := ⟨("_law_deed", none), "_law_deed", "_law_deed", defArgs s__law_deed, defBody s__law_deed, defScope s__law_deed, [], []⟩
def dD__law_is_refused : He.DefD := ⟨("_law_is_refused", none), "_law_is_refused", "_law_is_refused", defArgs s__law_is_refused, defBody s__law_is_refused, defScope s__law_is_refused, [], []⟩
def dD_law : He.DefD := ⟨("law", none), "law", "law", defArgs s_law, defBody s_law, defScope s_law, [], []⟩
def headFn : List He.DefD := [dD_is_integer, dD_is_within, dD_is_below, dD_is_pair, dD_is_sized, dD_are_integers, dD_check_number, dD_is_size, dD_Boxes___init__, dD_is_sum, dD_is_test, dD_is_plain, dD_statement_size, dD_body_size, dD_wrong_part, dD_Scene___init__, dD_value_of, dD_does_hold, dD_are_contents, dD_settled, dD_onward, dD_next_of, dD_walked_on, dD_Standing___init__, dD_begun, dD_is_done, dD_word_of, dD_asked_of, dD_changed, dD_behind_step, dD_SceneRunner___init__, dD_SceneRunner_word, dD_SceneRunner_coming, dD_SceneRunner_opened, dD_SceneRunner_contents, dD_SceneRunner_places, dD_SceneRunner_step, dD_SceneRunner_back, dD_SceneRunner_steps, dD_SceneRunner_go, dD_SceneRunner_copy, dD__law_hand, dD__law_draw, dD__law_any, dD__law_sum, dD__law_test, dD__law_number, dD__law_statement, dD__law_body, dD__law_counting, dD__law_size, dD__law_routines, dD__law_flat, dD__law_codes, dD__law_settled, dD__law_begun, dD__law_worth, dD__law_coming, dD__law_word, dD__law_stepped, dD__law_asked, dD__law_sizes, dD__law_deep, dD__law_laid, dD__law_is_right, dD__law_did, dD__law_gone, dD__law_deed, dD__law_is_refused, dD_law]
def headFa : List He.Fa := [.glo "Boxes", .glo "Scene", .glo "Standing", .glo "SceneRunner", .glo "NoNumber", .glo "NoContents", .glo "NotRunning", .glo "NothingDone", .glo "ASKED", .glo "PARTS", .glo "is_integer", .glo "is_within", .glo "is_below", .glo "is_pair", .glo "is_sized", .glo "are_integers", .glo "check_number", .glo "is_size", .meth "Boxes" "__init__", .glo "is_sum", .glo "is_test", .glo "is_plain", .glo "statement_size", .glo "body_size", .glo "wrong_part", .meth "Scene" "__init__", .glo "value_of", .glo "does_hold", .glo "are_contents", .glo "settled", .glo "onward", .glo "next_of", .glo "walked_on", .meth "Standing" "__init__", .glo "begun", .glo "is_done", .glo "word_of", .glo "asked_of", .glo "changed", .glo "behind_step", .meth "SceneRunner" "__init__", .meth "SceneRunner" "word", .meth "SceneRunner" "coming", .meth "SceneRunner" "opened", .meth "SceneRunner" "contents", .meth "SceneRunner" "places", .meth "SceneRunner" "step", .meth "SceneRunner" "back", .meth "SceneRunner" "steps", .meth "SceneRunner" "go", .meth "SceneRunner" "copy", .glo "_law_hand", .glo "_law_draw", .glo "_law_any", .glo "_law_sum", .glo "_law_test", .glo "_law_number", .glo "_law_statement", .glo "_law_body", .glo "_law_counting", .glo "_law_size", .glo "_law_routines", .glo "_law_flat", .glo "_law_codes", .glo "_law_settled", .glo "_law_begun", .glo "_law_worth", .glo "_law_coming", .glo "_law_word", .glo "_law_stepped", .glo "_law_asked", .glo "_law_sizes", .glo "_law_deep", .glo "_law_laid", .glo "_law_is_right", .glo "_law_did", .glo "_law_gone", .glo "_law_deed", .glo "_law_is_refused", .glo "law", .cls "Boxes", .mkr "Boxes", .cls "Scene", .mkr "Scene", .cls "Standing", .mkr "Standing", .cls "SceneRunner", .mkr "SceneRunner", .noat "Boxes" "sizes", .noat "Boxes" "many", .noat "Scene" "cells", .noat "Scene" "routines", .noat "Standing" "open_routines", .noat "Standing" "held", .noat "Standing" "put", .noat "SceneRunner" "scene", .noat "SceneRunner" "sized", .noat "SceneRunner" "past", .exc "NoNumber", .exc "NoContents", .exc "NotRunning", .exc "NothingDone", .exm "NotRunning" "NotRunning" true, .exm "NothingDone" "NotRunning" false, .exm "NothingDone" "NothingDone" true, .exm "NoNumber" "NotRunning" false, .exm "NoNumber" "NothingDone" false, .exm "NoNumber" "NoNumber" true, .exm "NoContents" "NoContents" true, .str "SET" "set", .str "PUT" "put", .str "ASK" "ask", .str "CALL" "call", .str "IF" "if", .str "WHILE" "while", .str "LESS" "less", .str "SAME" "same", .str "WIDTH" "width", .str "HEIGHT" "height", .str "LEFT" "left", .str "TOP" "top", .str "RUNS" "runs", .str "OVER" "over", .str "FAULT" "fault", .int "MOST_BOXES" 40, .int "MOST_SIZE" 1000, .int "MOST_CELLS" 5, .int "MOST_ROUTINES" 5, .int "MOST_DEEP" 8, .int "MOST_STATEMENTS" 60, .int "MOST_MULTIPLE" 1000, .int "MOST_OPEN" 20, .int "MOST_STEPS" 5000, .free "len", .free "sum", .free "all", .free "abs", .free "min", .free "isinstance", .free "int", .free "tuple", .free "list", .free "bool", .free "str", .free "range", .free "enumerate", .free "zip"]
def tabP : He.Tab := (fun K => ga K "PARTS", ["set", "put", "ask", "call", "if", "while"])
def ts : List He.Tab := [tabP]
def pv_ : List (Str × He.Dv) := [("set", .int 3), ("put", .int 4), ("ask", .int 4), ("call", .int 2), ("if", .int 4), ("while", .int 3)]
def ex (K : PySem.W.Frag) : Bool := He.tupB K "ASKED" [.str "width", .str "height", .str "left", .str "top"] && He.valsB K (ga K "PARTS") pv_
/-- the objects that the facts read: the module's names, their codes; a class's namespace, its methods, their codes -/
def valsOf (g : Addr → Option Obj) (a : Addr) : List Addr := match g a with
  | some ⟨_, _, .dict es _, _⟩ => es.toList.flatMap fun e => He.refV e.val
  | _ => []
def codeAt (g : Addr → Option Obj) (a : Addr) : List Addr := match g a with
  | some ⟨_, _, .func fd, _⟩ => He.refV fd.code
  | _ => []
def nsAt (g : Addr → Option Obj) (a : Addr) : List Addr := match g a with
  | some ⟨_, _, .cls cd, _⟩ => [cd.ns]
  | _ => []
def asA (g : Addr → Option Obj) : List Addr :=
  let v := valsOf g mainGlobals
  let n := v.flatMap (nsAt g)
  let m := n.flatMap (valsOf g)
  mainGlobals :: (v ++ n ++ m ++ v.flatMap (codeAt g) ++ m.flatMap (codeAt g))
def SaysA (w : World) (K : PySem.W.Frag) : Prop := He.SaysT headFa headFn ts w K ∧ ex K = true
def obsA (K : PySem.W.Frag) : He.AlX := (He.obsT headFa headFn ts K, ex K)
def hk : PySem.W.Hook where
  α := He.AlX
  obs := fun s => obsA (He.frG s.heap.get? (asA s.heap.get?))
  val := fun w => He.valX headFn ts w
  says := fun w h => ∃ K : PySem.W.Frag, K.In h ∧ SaysA w K
  of := fun _ _ e => ⟨_, He.frG_in, congrArg (fun z : He.AlX => z.1) e, congrArg (fun z : He.AlX => z.2) e⟩
  keeps := fun _ _ _ ⟨K, hK, c⟩ k => ⟨K, PySem.W.Frag.In.keeps hK k, c⟩
def ob (s : PySem.W.SharedT) : He.AlX := obsA (He.frG (HandSHeadRun.getT s) (asA (HandSHeadRun.getT s)))
theorem ob_eq (s : PySem.W.SharedT) : ob s = hk.obs s.abs := by
  have e : HandSHeadRun.getT s = s.abs.heap.get? := funext (HandSHeadRun.getT_eq s)
  show obsA (He.frG (HandSHeadRun.getT s) (asA (HandSHeadRun.getT s))) = obsA (He.frG s.abs.heap.get? (asA s.abs.heap.get?))
  rw [e]
theorem xf_of {K : PySem.W.Frag} {C : Addr} (h : PySem.W.excIn K C He.veBase "ValueError.__new__" = true ∧ PySem.W.keepIn K (.ref C) = true ∧ PySem.W.subIn K (.ref C) (.type "BaseException") = some true ∧ PySem.W.typeIn K (.ref C) = some (.type "type")) : XF K C := ⟨h.1, h.2.1, h.2.2.1, h.2.2.2⟩
theorem parts_v {K : PySem.W.Frag} (h : He.valsB K (ga K "PARTS") pv_ = true) {q : Str × Int} (hq : q ∈ ([("set", 3), ("put", 4), ("ask", 4), ("call", 2), ("if", 4), ("while", 3)] : List (Str × Int))) : ∃ u, PySem.W.nsIn K (ga K "PARTS") q.1 = some (some u) ∧ RelV (.int q.2) u := by
  have m : (q.1, He.Dv.int q.2) ∈ pv_ := List.mem_map_of_mem (f := fun q : Str × Int => (q.1, He.Dv.int q.2)) hq
  exact He.valsB_ok h m
theorem facts_of {w : World} {K : PySem.W.Frag} {h : Heap} {mg : Str → Option Value} (X : K.In h) (G : h.Ns mainGlobals mg) (c : SaysA w K) : Facts w K mg where
  g_Boxes := He.glo_ok X G (c.1.d.fact 0 (f := .glo "Boxes") rfl)
  g_Scene := He.glo_ok X G (c.1.d.fact 1 (f := .glo "Scene") rfl)
  g_Standing := He.glo_ok X G (c.1.d.fact 2 (f := .glo "Standing") rfl)
  g_SceneRunner := He.glo_ok X G (c.1.d.fact 3 (f := .glo "SceneRunner") rfl)
  g_NoNumber := He.glo_ok X G (c.1.d.fact 4 (f := .glo "NoNumber") rfl)
  g_NoContents := He.glo_ok X G (c.1.d.fact 5 (f := .glo "NoContents") rfl)
  g_NotRunning := He.glo_ok X G (c.1.d.fact 6 (f := .glo "NotRunning") rfl)
  g_NothingDone := He.glo_ok X G (c.1.d.fact 7 (f := .glo "NothingDone") rfl)
  g_ASKED := He.glo_ok X G (c.1.d.fact 8 (f := .glo "ASKED") rfl)
  g_PARTS := He.glo_ok X G (c.1.d.fact 9 (f := .glo "PARTS") rfl)
  d_is_integer := let ⟨fd, F⟩ := c.1.d.def_ 0 (d := dD_is_integer) rfl; ⟨ga K "is_integer", fd, F, He.glo_ok X G (c.1.d.fact 10 (f := .glo "is_integer") rfl)⟩
  d_is_within := let ⟨fd, F⟩ := c.1.d.def_ 1 (d := dD_is_within) rfl; ⟨ga K "is_within", fd, F, He.glo_ok X G (c.1.d.fact 11 (f := .glo "is_within") rfl)⟩
  d_is_below := let ⟨fd, F⟩ := c.1.d.def_ 2 (d := dD_is_below) rfl; ⟨ga K "is_below", fd, F, He.glo_ok X G (c.1.d.fact 12 (f := .glo "is_below") rfl)⟩
  d_is_pair := let ⟨fd, F⟩ := c.1.d.def_ 3 (d := dD_is_pair) rfl; ⟨ga K "is_pair", fd, F, He.glo_ok X G (c.1.d.fact 13 (f := .glo "is_pair") rfl)⟩
  d_is_sized := let ⟨fd, F⟩ := c.1.d.def_ 4 (d := dD_is_sized) rfl; ⟨ga K "is_sized", fd, F, He.glo_ok X G (c.1.d.fact 14 (f := .glo "is_sized") rfl)⟩
  d_are_integers := let ⟨fd, F⟩ := c.1.d.def_ 5 (d := dD_are_integers) rfl; ⟨ga K "are_integers", fd, F, He.glo_ok X G (c.1.d.fact 15 (f := .glo "are_integers") rfl)⟩
  d_check_number := let ⟨fd, F⟩ := c.1.d.def_ 6 (d := dD_check_number) rfl; ⟨ga K "check_number", fd, F, He.glo_ok X G (c.1.d.fact 16 (f := .glo "check_number") rfl)⟩
  d_is_size := let ⟨fd, F⟩ := c.1.d.def_ 7 (d := dD_is_size) rfl; ⟨ga K "is_size", fd, F, He.glo_ok X G (c.1.d.fact 17 (f := .glo "is_size") rfl)⟩
  d_Boxes___init__ := let ⟨fd, F⟩ := c.1.d.def_ 8 (d := dD_Boxes___init__) rfl; ⟨ma K (ga K "Boxes") "__init__", fd, F, He.meth_ok (c.1.d.fact 18 (f := .meth "Boxes" "__init__") rfl)⟩
  d_is_sum := let ⟨fd, F⟩ := c.1.d.def_ 9 (d := dD_is_sum) rfl; ⟨ga K "is_sum", fd, F, He.glo_ok X G (c.1.d.fact 19 (f := .glo "is_sum") rfl)⟩
  d_is_test := let ⟨fd, F⟩ := c.1.d.def_ 10 (d := dD_is_test) rfl; ⟨ga K "is_test", fd, F, He.glo_ok X G (c.1.d.fact 20 (f := .glo "is_test") rfl)⟩
  d_is_plain := let ⟨fd, F⟩ := c.1.d.def_ 11 (d := dD_is_plain) rfl; ⟨ga K "is_plain", fd, F, He.glo_ok X G (c.1.d.fact 21 (f := .glo "is_plain") rfl)⟩
  d_statement_size := let ⟨fd, F⟩ := c.1.d.def_ 12 (d := dD_statement_size) rfl; ⟨ga K "statement_size", fd, F, He.glo_ok X G (c.1.d.fact 22 (f := .glo "statement_size") rfl)⟩
  d_body_size := let ⟨fd, F⟩ := c.1.d.def_ 13 (d := dD_body_size) rfl; ⟨ga K "body_size", fd, F, He.glo_ok X G (c.1.d.fact 23 (f := .glo "body_size") rfl)⟩
  d_wrong_part := let ⟨fd, F⟩ := c.1.d.def_ 14 (d := dD_wrong_part) rfl; ⟨ga K "wrong_part", fd, F, He.glo_ok X G (c.1.d.fact 24 (f := .glo "wrong_part") rfl)⟩
  d_Scene___init__ := let ⟨fd, F⟩ := c.1.d.def_ 15 (d := dD_Scene___init__) rfl; ⟨ma K (ga K "Scene") "__init__", fd, F, He.meth_ok (c.1.d.fact 25 (f := .meth "Scene" "__init__") rfl)⟩
  d_value_of := let ⟨fd, F⟩ := c.1.d.def_ 16 (d := dD_value_of) rfl; ⟨ga K "value_of", fd, F, He.glo_ok X G (c.1.d.fact 26 (f := .glo "value_of") rfl)⟩
  d_does_hold := let ⟨fd, F⟩ := c.1.d.def_ 17 (d := dD_does_hold) rfl; ⟨ga K "does_hold", fd, F, He.glo_ok X G (c.1.d.fact 27 (f := .glo "does_hold") rfl)⟩
  d_are_contents := let ⟨fd, F⟩ := c.1.d.def_ 18 (d := dD_are_contents) rfl; ⟨ga K "are_contents", fd, F, He.glo_ok X G (c.1.d.fact 28 (f := .glo "are_contents") rfl)⟩
  d_settled := let ⟨fd, F⟩ := c.1.d.def_ 19 (d := dD_settled) rfl; ⟨ga K "settled", fd, F, He.glo_ok X G (c.1.d.fact 29 (f := .glo "settled") rfl)⟩
  d_onward := let ⟨fd, F⟩ := c.1.d.def_ 20 (d := dD_onward) rfl; ⟨ga K "onward", fd, F, He.glo_ok X G (c.1.d.fact 30 (f := .glo "onward") rfl)⟩
  d_next_of := let ⟨fd, F⟩ := c.1.d.def_ 21 (d := dD_next_of) rfl; ⟨ga K "next_of", fd, F, He.glo_ok X G (c.1.d.fact 31 (f := .glo "next_of") rfl)⟩
  d_walked_on := let ⟨fd, F⟩ := c.1.d.def_ 22 (d := dD_walked_on) rfl; ⟨ga K "walked_on", fd, F, He.glo_ok X G (c.1.d.fact 32 (f := .glo "walked_on") rfl)⟩
  d_Standing___init__ := let ⟨fd, F⟩ := c.1.d.def_ 23 (d := dD_Standing___init__) rfl; ⟨ma K (ga K "Standing") "__init__", fd, F, He.meth_ok (c.1.d.fact 33 (f := .meth "Standing" "__init__") rfl)⟩
  d_begun := let ⟨fd, F⟩ := c.1.d.def_ 24 (d := dD_begun) rfl; ⟨ga K "begun", fd, F, He.glo_ok X G (c.1.d.fact 34 (f := .glo "begun") rfl)⟩
  d_is_done := let ⟨fd, F⟩ := c.1.d.def_ 25 (d := dD_is_done) rfl; ⟨ga K "is_done", fd, F, He.glo_ok X G (c.1.d.fact 35 (f := .glo "is_done") rfl)⟩
  d_word_of := let ⟨fd, F⟩ := c.1.d.def_ 26 (d := dD_word_of) rfl; ⟨ga K "word_of", fd, F, He.glo_ok X G (c.1.d.fact 36 (f := .glo "word_of") rfl)⟩
  d_asked_of := let ⟨fd, F⟩ := c.1.d.def_ 27 (d := dD_asked_of) rfl; ⟨ga K "asked_of", fd, F, He.glo_ok X G (c.1.d.fact 37 (f := .glo "asked_of") rfl)⟩
  d_changed := let ⟨fd, F⟩ := c.1.d.def_ 28 (d := dD_changed) rfl; ⟨ga K "changed", fd, F, He.glo_ok X G (c.1.d.fact 38 (f := .glo "changed") rfl)⟩
  d_behind_step := let ⟨fd, F⟩ := c.1.d.def_ 29 (d := dD_behind_step) rfl; ⟨ga K "behind_step", fd, F, He.glo_ok X G (c.1.d.fact 39 (f := .glo "behind_step") rfl)⟩
  d_SceneRunner___init__ := let ⟨fd, F⟩ := c.1.d.def_ 30 (d := dD_SceneRunner___init__) rfl; ⟨ma K (ga K "SceneRunner") "__init__", fd, F, He.meth_ok (c.1.d.fact 40 (f := .meth "SceneRunner" "__init__") rfl)⟩
  d_SceneRunner_word := let ⟨fd, F⟩ := c.1.d.def_ 31 (d := dD_SceneRunner_word) rfl; ⟨ma K (ga K "SceneRunner") "word", fd, F, He.meth_ok (c.1.d.fact 41 (f := .meth "SceneRunner" "word") rfl)⟩
  d_SceneRunner_coming := let ⟨fd, F⟩ := c.1.d.def_ 32 (d := dD_SceneRunner_coming) rfl; ⟨ma K (ga K "SceneRunner") "coming", fd, F, He.meth_ok (c.1.d.fact 42 (f := .meth "SceneRunner" "coming") rfl)⟩
  d_SceneRunner_opened := let ⟨fd, F⟩ := c.1.d.def_ 33 (d := dD_SceneRunner_opened) rfl; ⟨ma K (ga K "SceneRunner") "opened", fd, F, He.meth_ok (c.1.d.fact 43 (f := .meth "SceneRunner" "opened") rfl)⟩
  d_SceneRunner_contents := let ⟨fd, F⟩ := c.1.d.def_ 34 (d := dD_SceneRunner_contents) rfl; ⟨ma K (ga K "SceneRunner") "contents", fd, F, He.meth_ok (c.1.d.fact 44 (f := .meth "SceneRunner" "contents") rfl)⟩
  d_SceneRunner_places := let ⟨fd, F⟩ := c.1.d.def_ 35 (d := dD_SceneRunner_places) rfl; ⟨ma K (ga K "SceneRunner") "places", fd, F, He.meth_ok (c.1.d.fact 45 (f := .meth "SceneRunner" "places") rfl)⟩
  d_SceneRunner_step := let ⟨fd, F⟩ := c.1.d.def_ 36 (d := dD_SceneRunner_step) rfl; ⟨ma K (ga K "SceneRunner") "step", fd, F, He.meth_ok (c.1.d.fact 46 (f := .meth "SceneRunner" "step") rfl)⟩
  d_SceneRunner_back := let ⟨fd, F⟩ := c.1.d.def_ 37 (d := dD_SceneRunner_back) rfl; ⟨ma K (ga K "SceneRunner") "back", fd, F, He.meth_ok (c.1.d.fact 47 (f := .meth "SceneRunner" "back") rfl)⟩
  d_SceneRunner_steps := let ⟨fd, F⟩ := c.1.d.def_ 38 (d := dD_SceneRunner_steps) rfl; ⟨ma K (ga K "SceneRunner") "steps", fd, F, He.meth_ok (c.1.d.fact 48 (f := .meth "SceneRunner" "steps") rfl)⟩
  d_SceneRunner_go := let ⟨fd, F⟩ := c.1.d.def_ 39 (d := dD_SceneRunner_go) rfl; ⟨ma K (ga K "SceneRunner") "go", fd, F, He.meth_ok (c.1.d.fact 49 (f := .meth "SceneRunner" "go") rfl)⟩
  d_SceneRunner_copy := let ⟨fd, F⟩ := c.1.d.def_ 40 (d := dD_SceneRunner_copy) rfl; ⟨ma K (ga K "SceneRunner") "copy", fd, F, He.meth_ok (c.1.d.fact 50 (f := .meth "SceneRunner" "copy") rfl)⟩
  d__law_hand := let ⟨fd, F⟩ := c.1.d.def_ 41 (d := dD__law_hand) rfl; ⟨ga K "_law_hand", fd, F, He.glo_ok X G (c.1.d.fact 51 (f := .glo "_law_hand") rfl)⟩
  d__law_draw := let ⟨fd, F⟩ := c.1.d.def_ 42 (d := dD__law_draw) rfl; ⟨ga K "_law_draw", fd, F, He.glo_ok X G (c.1.d.fact 52 (f := .glo "_law_draw") rfl)⟩
  d__law_any := let ⟨fd, F⟩ := c.1.d.def_ 43 (d := dD__law_any) rfl; ⟨ga K "_law_any", fd, F, He.glo_ok X G (c.1.d.fact 53 (f := .glo "_law_any") rfl)⟩
  d__law_sum := let ⟨fd, F⟩ := c.1.d.def_ 44 (d := dD__law_sum) rfl; ⟨ga K "_law_sum", fd, F, He.glo_ok X G (c.1.d.fact 54 (f := .glo "_law_sum") rfl)⟩
  d__law_test := let ⟨fd, F⟩ := c.1.d.def_ 45 (d := dD__law_test) rfl; ⟨ga K "_law_test", fd, F, He.glo_ok X G (c.1.d.fact 55 (f := .glo "_law_test") rfl)⟩
  d__law_number := let ⟨fd, F⟩ := c.1.d.def_ 46 (d := dD__law_number) rfl; ⟨ga K "_law_number", fd, F, He.glo_ok X G (c.1.d.fact 56 (f := .glo "_law_number") rfl)⟩
  d__law_statement := let ⟨fd, F⟩ := c.1.d.def_ 47 (d := dD__law_statement) rfl; ⟨ga K "_law_statement", fd, F, He.glo_ok X G (c.1.d.fact 57 (f := .glo "_law_statement") rfl)⟩
  d__law_body := let ⟨fd, F⟩ := c.1.d.def_ 48 (d := dD__law_body) rfl; ⟨ga K "_law_body", fd, F, He.glo_ok X G (c.1.d.fact 58 (f := .glo "_law_body") rfl)⟩
  d__law_counting := let ⟨fd, F⟩ := c.1.d.def_ 49 (d := dD__law_counting) rfl; ⟨ga K "_law_counting", fd, F, He.glo_ok X G (c.1.d.fact 59 (f := .glo "_law_counting") rfl)⟩
  d__law_size := let ⟨fd, F⟩ := c.1.d.def_ 50 (d := dD__law_size) rfl; ⟨ga K "_law_size", fd, F, He.glo_ok X G (c.1.d.fact 60 (f := .glo "_law_size") rfl)⟩
  d__law_routines := let ⟨fd, F⟩ := c.1.d.def_ 51 (d := dD__law_routines) rfl; ⟨ga K "_law_routines", fd, F, He.glo_ok X G (c.1.d.fact 61 (f := .glo "_law_routines") rfl)⟩
  d__law_flat := let ⟨fd, F⟩ := c.1.d.def_ 52 (d := dD__law_flat) rfl; ⟨ga K "_law_flat", fd, F, He.glo_ok X G (c.1.d.fact 62 (f := .glo "_law_flat") rfl)⟩
  d__law_codes := let ⟨fd, F⟩ := c.1.d.def_ 53 (d := dD__law_codes) rfl; ⟨ga K "_law_codes", fd, F, He.glo_ok X G (c.1.d.fact 63 (f := .glo "_law_codes") rfl)⟩
  d__law_settled := let ⟨fd, F⟩ := c.1.d.def_ 54 (d := dD__law_settled) rfl; ⟨ga K "_law_settled", fd, F, He.glo_ok X G (c.1.d.fact 64 (f := .glo "_law_settled") rfl)⟩
  d__law_begun := let ⟨fd, F⟩ := c.1.d.def_ 55 (d := dD__law_begun) rfl; ⟨ga K "_law_begun", fd, F, He.glo_ok X G (c.1.d.fact 65 (f := .glo "_law_begun") rfl)⟩
  d__law_worth := let ⟨fd, F⟩ := c.1.d.def_ 56 (d := dD__law_worth) rfl; ⟨ga K "_law_worth", fd, F, He.glo_ok X G (c.1.d.fact 66 (f := .glo "_law_worth") rfl)⟩
  d__law_coming := let ⟨fd, F⟩ := c.1.d.def_ 57 (d := dD__law_coming) rfl; ⟨ga K "_law_coming", fd, F, He.glo_ok X G (c.1.d.fact 67 (f := .glo "_law_coming") rfl)⟩
  d__law_word := let ⟨fd, F⟩ := c.1.d.def_ 58 (d := dD__law_word) rfl; ⟨ga K "_law_word", fd, F, He.glo_ok X G (c.1.d.fact 68 (f := .glo "_law_word") rfl)⟩
  d__law_stepped := let ⟨fd, F⟩ := c.1.d.def_ 59 (d := dD__law_stepped) rfl; ⟨ga K "_law_stepped", fd, F, He.glo_ok X G (c.1.d.fact 69 (f := .glo "_law_stepped") rfl)⟩
  d__law_asked := let ⟨fd, F⟩ := c.1.d.def_ 60 (d := dD__law_asked) rfl; ⟨ga K "_law_asked", fd, F, He.glo_ok X G (c.1.d.fact 70 (f := .glo "_law_asked") rfl)⟩
  d__law_sizes := let ⟨fd, F⟩ := c.1.d.def_ 61 (d := dD__law_sizes) rfl; ⟨ga K "_law_sizes", fd, F, He.glo_ok X G (c.1.d.fact 71 (f := .glo "_law_sizes") rfl)⟩
  d__law_deep := let ⟨fd, F⟩ := c.1.d.def_ 62 (d := dD__law_deep) rfl; ⟨ga K "_law_deep", fd, F, He.glo_ok X G (c.1.d.fact 72 (f := .glo "_law_deep") rfl)⟩
  d__law_laid := let ⟨fd, F⟩ := c.1.d.def_ 63 (d := dD__law_laid) rfl; ⟨ga K "_law_laid", fd, F, He.glo_ok X G (c.1.d.fact 73 (f := .glo "_law_laid") rfl)⟩
  d__law_is_right := let ⟨fd, F⟩ := c.1.d.def_ 64 (d := dD__law_is_right) rfl; ⟨ga K "_law_is_right", fd, F, He.glo_ok X G (c.1.d.fact 74 (f := .glo "_law_is_right") rfl)⟩
  d__law_did := let ⟨fd, F⟩ := c.1.d.def_ 65 (d := dD__law_did) rfl; ⟨ga K "_law_did", fd, F, He.glo_ok X G (c.1.d.fact 75 (f := .glo "_law_did") rfl)⟩
  d__law_gone := let ⟨fd, F⟩ := c.1.d.def_ 66 (d := dD__law_gone) rfl; ⟨ga K "_law_gone", fd, F, He.glo_ok X G (c.1.d.fact 76 (f := .glo "_law_gone") rfl)⟩
  d__law_deed := let ⟨fd, F⟩ := c.1.d.def_ 67 (d := dD__law_deed) rfl; ⟨ga K "_law_deed", fd, F, He.glo_ok X G (c.1.d.fact 77 (f := .glo "_law_deed") rfl)⟩
  d__law_is_refused := let ⟨fd, F⟩ := c.1.d.def_ 68 (d := dD__law_is_refused) rfl; ⟨ga K "_law_is_refused", fd, F, He.glo_ok X G (c.1.d.fact 78 (f := .glo "_law_is_refused") rfl)⟩
  d_law := let ⟨fd, F⟩ := c.1.d.def_ 69 (d := dD_law) rfl; ⟨ga K "law", fd, F, He.glo_ok X G (c.1.d.fact 79 (f := .glo "law") rfl)⟩
  cl_Boxes := He.cls_ok (c.1.d.fact 80 (f := .cls "Boxes") rfl)
  mk_Boxes := He.mkr_ok (c.1.d.fact 81 (f := .mkr "Boxes") rfl)
  cl_Scene := He.cls_ok (c.1.d.fact 82 (f := .cls "Scene") rfl)
  mk_Scene := He.mkr_ok (c.1.d.fact 83 (f := .mkr "Scene") rfl)
  cl_Standing := He.cls_ok (c.1.d.fact 84 (f := .cls "Standing") rfl)
  mk_Standing := He.mkr_ok (c.1.d.fact 85 (f := .mkr "Standing") rfl)
  cl_SceneRunner := He.cls_ok (c.1.d.fact 86 (f := .cls "SceneRunner") rfl)
  mk_SceneRunner := He.mkr_ok (c.1.d.fact 87 (f := .mkr "SceneRunner") rfl)
  na_Boxes_sizes := He.noat_ok (c.1.d.fact 88 (f := .noat "Boxes" "sizes") rfl)
  na_Boxes_many := He.noat_ok (c.1.d.fact 89 (f := .noat "Boxes" "many") rfl)
  na_Scene_cells := He.noat_ok (c.1.d.fact 90 (f := .noat "Scene" "cells") rfl)
  na_Scene_routines := He.noat_ok (c.1.d.fact 91 (f := .noat "Scene" "routines") rfl)
  na_Standing_open_routines := He.noat_ok (c.1.d.fact 92 (f := .noat "Standing" "open_routines") rfl)
  na_Standing_held := He.noat_ok (c.1.d.fact 93 (f := .noat "Standing" "held") rfl)
  na_Standing_put := He.noat_ok (c.1.d.fact 94 (f := .noat "Standing" "put") rfl)
  na_SceneRunner_scene := He.noat_ok (c.1.d.fact 95 (f := .noat "SceneRunner" "scene") rfl)
  na_SceneRunner_sized := He.noat_ok (c.1.d.fact 96 (f := .noat "SceneRunner" "sized") rfl)
  na_SceneRunner_past := He.noat_ok (c.1.d.fact 97 (f := .noat "SceneRunner" "past") rfl)
  x_NoNumber := xf_of (He.exc_ok (c.1.d.fact 98 (f := .exc "NoNumber") rfl))
  x_NoContents := xf_of (He.exc_ok (c.1.d.fact 99 (f := .exc "NoContents") rfl))
  x_NotRunning := xf_of (He.exc_ok (c.1.d.fact 100 (f := .exc "NotRunning") rfl))
  x_NothingDone := xf_of (He.exc_ok (c.1.d.fact 101 (f := .exc "NothingDone") rfl))
  m_NotRunning_NotRunning := He.exm_ok (c.1.d.fact 102 (f := .exm "NotRunning" "NotRunning" true) rfl)
  m_NothingDone_NotRunning := He.exm_ok (c.1.d.fact 103 (f := .exm "NothingDone" "NotRunning" false) rfl)
  m_NothingDone_NothingDone := He.exm_ok (c.1.d.fact 104 (f := .exm "NothingDone" "NothingDone" true) rfl)
  m_NoNumber_NotRunning := He.exm_ok (c.1.d.fact 105 (f := .exm "NoNumber" "NotRunning" false) rfl)
  m_NoNumber_NothingDone := He.exm_ok (c.1.d.fact 106 (f := .exm "NoNumber" "NothingDone" false) rfl)
  m_NoNumber_NoNumber := He.exm_ok (c.1.d.fact 107 (f := .exm "NoNumber" "NoNumber" true) rfl)
  m_NoContents_NoContents := He.exm_ok (c.1.d.fact 108 (f := .exm "NoContents" "NoContents" true) rfl)
  c_SET := He.str_ok X G (c.1.d.fact 109 (f := .str "SET" "set") rfl)
  c_PUT := He.str_ok X G (c.1.d.fact 110 (f := .str "PUT" "put") rfl)
  c_ASK := He.str_ok X G (c.1.d.fact 111 (f := .str "ASK" "ask") rfl)
  c_CALL := He.str_ok X G (c.1.d.fact 112 (f := .str "CALL" "call") rfl)
  c_IF := He.str_ok X G (c.1.d.fact 113 (f := .str "IF" "if") rfl)
  c_WHILE := He.str_ok X G (c.1.d.fact 114 (f := .str "WHILE" "while") rfl)
  c_LESS := He.str_ok X G (c.1.d.fact 115 (f := .str "LESS" "less") rfl)
  c_SAME := He.str_ok X G (c.1.d.fact 116 (f := .str "SAME" "same") rfl)
  c_WIDTH := He.str_ok X G (c.1.d.fact 117 (f := .str "WIDTH" "width") rfl)
  c_HEIGHT := He.str_ok X G (c.1.d.fact 118 (f := .str "HEIGHT" "height") rfl)
  c_LEFT := He.str_ok X G (c.1.d.fact 119 (f := .str "LEFT" "left") rfl)
  c_TOP := He.str_ok X G (c.1.d.fact 120 (f := .str "TOP" "top") rfl)
  c_RUNS := He.str_ok X G (c.1.d.fact 121 (f := .str "RUNS" "runs") rfl)
  c_OVER := He.str_ok X G (c.1.d.fact 122 (f := .str "OVER" "over") rfl)
  c_FAULT := He.str_ok X G (c.1.d.fact 123 (f := .str "FAULT" "fault") rfl)
  c_MOST_BOXES := He.int_ok X G (c.1.d.fact 124 (f := .int "MOST_BOXES" 40) rfl)
  c_MOST_SIZE := He.int_ok X G (c.1.d.fact 125 (f := .int "MOST_SIZE" 1000) rfl)
  c_MOST_CELLS := He.int_ok X G (c.1.d.fact 126 (f := .int "MOST_CELLS" 5) rfl)
  c_MOST_ROUTINES := He.int_ok X G (c.1.d.fact 127 (f := .int "MOST_ROUTINES" 5) rfl)
  c_MOST_DEEP := He.int_ok X G (c.1.d.fact 128 (f := .int "MOST_DEEP" 8) rfl)
  c_MOST_STATEMENTS := He.int_ok X G (c.1.d.fact 129 (f := .int "MOST_STATEMENTS" 60) rfl)
  c_MOST_MULTIPLE := He.int_ok X G (c.1.d.fact 130 (f := .int "MOST_MULTIPLE" 1000) rfl)
  c_MOST_OPEN := He.int_ok X G (c.1.d.fact 131 (f := .int "MOST_OPEN" 20) rfl)
  c_MOST_STEPS := He.int_ok X G (c.1.d.fact 132 (f := .int "MOST_STEPS" 5000) rfl)
  b_len := He.free_ok X G (c.1.d.fact 133 (f := .free "len") rfl)
  b_sum := He.free_ok X G (c.1.d.fact 134 (f := .free "sum") rfl)
  b_all := He.free_ok X G (c.1.d.fact 135 (f := .free "all") rfl)
  b_abs := He.free_ok X G (c.1.d.fact 136 (f := .free "abs") rfl)
  b_min := He.free_ok X G (c.1.d.fact 137 (f := .free "min") rfl)
  b_isinstance := He.free_ok X G (c.1.d.fact 138 (f := .free "isinstance") rfl)
  b_int := He.free_ok X G (c.1.d.fact 139 (f := .free "int") rfl)
  b_tuple := He.free_ok X G (c.1.d.fact 140 (f := .free "tuple") rfl)
  b_list := He.free_ok X G (c.1.d.fact 141 (f := .free "list") rfl)
  b_bool := He.free_ok X G (c.1.d.fact 142 (f := .free "bool") rfl)
  b_str := He.free_ok X G (c.1.d.fact 143 (f := .free "str") rfl)
  b_range := He.free_ok X G (c.1.d.fact 144 (f := .free "range") rfl)
  b_enumerate := He.free_ok X G (c.1.d.fact 145 (f := .free "enumerate") rfl)
  b_zip := He.free_ok X G (c.1.d.fact 146 (f := .free "zip") rfl)
  asked := fun H => He.tupB_ok (x := "ASKED") (vs := [.str "width", .str "height", .str "left", .str "top"]) (ba c.2).1 H
  parts := ⟨c.1.tab 0 (t := tabP) rfl, fun q hq => parts_v (ba c.2).2 hq⟩
end K34

namespace K34
open PySem PySem.Spec PyProof.Rows L2
abbrev Rw : PySem.W.OpenRow := PySem.W.OpenLaw.row PySem.Challenge.rw_fourstrokes_k34_whole_scenes_led_step_by
def loose0 : List PySem.Str := ["StrokeError", "BadBoxes", "NoNumber", "BadScene", "NoContents", "NotRunning", "NothingDone", "is_integer", "is_within", "is_below", "is_pair", "is_sized", "are_integers", "check_number", "MOST_BOXES", "MOST_SIZE", "is_size", "Boxes", "MOST_CELLS", "MOST_ROUTINES", "MOST_DEEP", "MOST_STATEMENTS", "MOST_MULTIPLE", "SET", "PUT", "ASK", "CALL", "IF", "WHILE", "LESS"]
def loose1 : List PySem.Str := ["SAME", "WIDTH", "HEIGHT", "LEFT", "TOP", "ASKED", "PARTS", "is_sum", "is_test", "is_plain", "statement_size", "body_size", "wrong_part", "Scene", "value_of", "does_hold", "are_contents", "MOST_OPEN", "MOST_STEPS", "RUNS", "OVER", "FAULT", "settled", "onward", "next_of", "walked_on", "Standing", "begun", "is_done", "word_of"]
def loose2 : List PySem.Str := ["asked_of", "changed", "behind_step", "SceneRunner", "_law_hand", "_law_draw", "_law_any", "_law_sum", "_law_test", "_law_number", "_law_statement", "_law_body", "_law_counting", "_law_size", "_law_routines", "_law_flat", "_law_codes", "_law_settled", "_law_begun", "_law_worth", "_law_coming", "_law_word", "_law_stepped", "_law_asked", "_law_sizes", "_law_deep", "_law_laid", "_law_is_right", "_law_did", "_law_gone"]
def loose3 : List PySem.Str := ["_law_deed", "_law_is_refused"]
def loose : List PySem.Str := loose0 ++ loose1 ++ loose2 ++ loose3
abbrev RunAt (w : World) : Prop := HandSHeadRun.RunEq Rw (PySem.W.view Rw.prog [98]) hk ob 6000 loose w
theorem runF (w : World) : RunAt (w.withFollow "special-get-raises" false) := by
  intro os
  kernel_rfl
theorem runT (w : World) : RunAt (w.withFollow "special-get-raises" true) := by
  intro os
  kernel_rfl
theorem run (w : World) : HandSHeadRun.RunEq Rw (PySem.W.view Rw.prog [98]) hk ob 6000 loose w := PySem.W.byRow2 "special-get-raises" (P := RunAt) runF runT w
end K34

set_option linter.all false
/-! K3: the mathematics, no program in sight: statements, the program's standing, the law's flat code, and that both go the same way. -/
namespace K34
abbrev Sm := List Int
inductive Wd where | width | height | left | top
  deriving DecidableEq
structure Tst where
  less : Bool
  a : Sm
  b : Sm
inductive Stm where
  | set (c : Nat) (s : Sm)
  | put (b x y : Sm)
  | ask (c : Nat) (w : Wd) (s : Sm)
  | call (r : Nat)
  | ite (t : Tst) (y n : List Stm)
  | whl (t : Tst) (b : List Stm)
/-! ### right statements, how deep, how many -/
def OkSm (cells : Nat) (s : Sm) : Prop := s.length = cells + 1 ∧ ∀ z ∈ s, -1000 ≤ z ∧ z ≤ 1000
def OkT (cells : Nat) (t : Tst) : Prop := OkSm cells t.a ∧ OkSm cells t.b
mutual
def OkS (cells rts : Nat) : Stm → Prop
  | .set c s => c < cells ∧ OkSm cells s
  | .put b x y => OkSm cells b ∧ OkSm cells x ∧ OkSm cells y
  | .ask c _ s => c < cells ∧ OkSm cells s
  | .call r => r < rts
  | .ite t y n => OkT cells t ∧ OkB cells rts y ∧ OkB cells rts n
  | .whl t b => OkT cells t ∧ OkB cells rts b
def OkB (cells rts : Nat) : List Stm → Prop
  | [] => True
  | s :: r => OkS cells rts s ∧ OkB cells rts r
end
mutual
def dpS : Stm → Nat
  | .ite _ y n => 1 + max (dpB y) (dpB n)
  | .whl _ b => 1 + dpB b
  | .set _ _ => 0
  | .put _ _ _ => 0
  | .ask _ _ _ => 0
  | .call _ => 0
def dpB : List Stm → Nat
  | [] => 0
  | s :: r => max (dpS s) (dpB r)
end
mutual
def szS : Stm → Nat
  | .ite _ y n => 1 + (szB y + szB n)
  | .whl _ b => 1 + szB b
  | .set _ _ => 1
  | .put _ _ _ => 1
  | .ask _ _ _ => 1
  | .call _ => 1
def szB : List Stm → Nat
  | [] => 0
  | s :: r => szS s + szB r
end
theorem OkB_mem {cells rts : Nat} : ∀ {b : List Stm}, OkB cells rts b → ∀ s ∈ b, OkS cells rts s
  | [], _, s, h => by cases h
  | a :: r, h, s, m => by
    have h1 : OkS cells rts a ∧ OkB cells rts r := by rw [OkB] at h; exact h
    rcases List.mem_cons.mp m with e | m
    · rw [e]; exact h1.1
    · exact OkB_mem h1.2 s m
theorem OkB_of {cells rts : Nat} : ∀ {b : List Stm}, (∀ s ∈ b, OkS cells rts s) → OkB cells rts b
  | [], _ => by rw [OkB]; exact True.intro
  | a :: r, h => by
    rw [OkB]
    exact ⟨h a List.mem_cons_self, OkB_of fun s m => h s (List.mem_cons_of_mem _ m)⟩
theorem dpB_mem : ∀ {b : List Stm} {s : Stm}, s ∈ b → dpS s ≤ dpB b
  | [], s, h => by cases h
  | a :: r, s, m => by
    rw [dpB]
    rcases List.mem_cons.mp m with e | m
    · rw [e]; exact Nat.le_max_left _ _
    · exact Nat.le_trans (dpB_mem m) (Nat.le_max_right _ _)
theorem dpB_le {n : Nat} : ∀ {b : List Stm}, (∀ s ∈ b, dpS s ≤ n) → dpB b ≤ n
  | [], _ => by rw [dpB]; exact Nat.zero_le _
  | a :: r, h => by
    rw [dpB]
    exact Nat.max_le.mpr ⟨h a List.mem_cons_self, dpB_le fun s m => h s (List.mem_cons_of_mem _ m)⟩
theorem dpB_append (a b : List Stm) : dpB (a ++ b) = max (dpB a) (dpB b) := by
  induction a with
  | nil => rw [List.nil_append, dpB]; exact (Nat.zero_max _).symm
  | cons x r ih => rw [List.cons_append, dpB, dpB, ih, Nat.max_assoc]
theorem szB_append (a b : List Stm) : szB (a ++ b) = szB a + szB b := by
  induction a with
  | nil => rw [List.nil_append, szB]; omega
  | cons x r ih => rw [List.cons_append, szB, szB, ih]; omega
theorem szS_pos (s : Stm) : 1 ≤ szS s := by cases s <;> rw [szS] <;> omega
theorem szB_len : ∀ b : List Stm, b.length ≤ szB b
  | [] => Nat.zero_le _
  | s :: r => by
    rw [szB, List.length_cons]
    have h1 := szS_pos s
    have h2 := szB_len r
    omega
/-! ### what a sum comes to -/
def dot : List Int → List Int → Int
  | x :: xs, y :: ys => x * y + dot xs ys
  | _, _ => 0
def val (s : Sm) (held : List Int) : Int := s.getLastD 0 + dot s held
def holds (t : Tst) (held : List Int) : Bool := if t.less then decide (val t.a held < val t.b held) else decide (val t.a held = val t.b held)
/-! ### the program's standing: innermost and last opened first -/
abbrev Lev := List Stm × Nat
abbrev Rou := Nat × List Lev
abbrev Opn := List Rou
def onw : List Lev → List Lev
  | (b, p) :: r => (b, p + 1) :: r
  | [] => []
def isWhl : Option Stm → Bool
  | some (.whl _ _) => true
  | _ => false
theorem onw_len (l : List Lev) : (onw l).length = l.length := by cases l <;> rfl
def levs : Opn → Nat
  | [] => 0
  | (_, l) :: r => l.length + levs r
def settledP : Opn → Opn
  | [] => []
  | (n, []) :: rest => (n, []) :: rest
  | (n, (b, p) :: lv) :: rest =>
    if p < b.length then (n, (b, p) :: lv) :: rest
    else match lv with
      | (b2, p2) :: lv2 => settledP ((n, if isWhl b2[p2]? then (b2, p2) :: lv2 else onw ((b2, p2) :: lv2)) :: rest)
      | [] => match rest with
        | [] => []
        | (n2, lv2) :: rest2 => settledP ((n2, onw lv2) :: rest2)
termination_by o => levs o
decreasing_by
  · split <;> (simp only [levs, onw, List.length_cons]; omega)
  · simp only [levs, onw_len, List.length_cons, List.length_nil]; omega
structure PSt where
  op : Opn
  held : List Int
  pos : List (Option (Int × Int))
/-- the statement that is next -/
def nextP : Opn → Option Stm
  | (_, (b, p) :: _) :: _ => b[p]?
  | _ => none
def walkedP (rs : List (List Stm)) (o : Opn) (held : List Int) : Opn :=
  match o with
  | (n, (b, p) :: lv) :: rest => match b[p]? with
    | some (.call r) => settledP ((r, [(rs.getD r [], 0)]) :: (n, (b, p) :: lv) :: rest)
    | some (.ite t y m) => settledP ((n, (if holds t held then y else m, 0) :: (b, p) :: lv) :: rest)
    | some (.whl t d) => if holds t held then settledP ((n, (d, 0) :: (b, p) :: lv) :: rest) else settledP ((n, (b, p + 1) :: lv) :: rest)
    | _ => settledP ((n, (b, p + 1) :: lv) :: rest)
  | _ => o
/-- can the statement be done -/
def doneP (many : Nat) (st : PSt) : Bool := match nextP st.op with
  | some (.call _) => decide (st.op.length < 20)
  | some (.put s _ _) => decide (0 ≤ val s st.held ∧ val s st.held < many)
  | some (.ask _ w s) => decide (0 ≤ val s st.held ∧ val s st.held < many) && (decide (w = .width) || decide (w = .height) || (st.pos.getD (val s st.held).toNat none).isSome)
  | _ => true
inductive Wr where | over | runs | fault
  deriving DecidableEq
def wordP (many : Nat) (st : PSt) : Wr := if st.op.length = 0 then .over else if doneP many st then .runs else .fault
def askedP (sizes : List (Int × Int)) (pos : List (Option (Int × Int))) (w : Wd) (box : Nat) : Int := match w with
  | .width => (sizes.getD box (0, 0)).1
  | .height => (sizes.getD box (0, 0)).2
  | .left => ((pos.getD box none).getD (0, 0)).1
  | .top => ((pos.getD box none).getD (0, 0)).2
def behindP (rs : List (List Stm)) (sizes : List (Int × Int)) (st : PSt) : PSt :=
  { op := walkedP rs st.op st.held
    held := match nextP st.op with
      | some (.set c s) => st.held.set c (val s st.held)
      | some (.ask c w s) => st.held.set c (askedP sizes st.pos w (val s st.held).toNat)
      | _ => st.held
    pos := match nextP st.op with
      | some (.put b x y) => st.pos.set (val b st.held).toNat (some (val x st.held, val y st.held))
      | _ => st.pos }
/-- steps while it runs, at most so many -/
def goneP (rs : List (List Stm)) (sizes : List (Int × Int)) (many : Nat) : Nat → List PSt → PSt → List PSt
  | 0, acc, _ => acc
  | n + 1, acc, s => if wordP many s = .runs then goneP rs sizes many n (acc ++ [behindP rs sizes s]) (behindP rs sizes s) else acc
/-! ### the law's code: one list of what is done, with places to go on at -/
inductive Itm where
  | go (p : Nat)
  | test (t : Tst) (p : Nat)
  | do_ (s : Stm)
  | end_
mutual
def flatS (k : Nat) : Stm → List Itm
  | .ite t y n => .test t (k + 1 + (flatB (k + 1) y).length + 1) :: (flatB (k + 1) y ++ .go (k + 1 + (flatB (k + 1) y).length + 1 + (flatB (k + 1 + (flatB (k + 1) y).length + 1) n).length) :: flatB (k + 1 + (flatB (k + 1) y).length + 1) n)
  | .whl t b => .test t (k + 1 + (flatB (k + 1) b).length + 1) :: (flatB (k + 1) b ++ [.go k])
  | .set c s => [.do_ (.set c s)]
  | .put b x y => [.do_ (.put b x y)]
  | .ask c w s => [.do_ (.ask c w s)]
  | .call r => [.do_ (.call r)]
def flatB (k : Nat) : List Stm → List Itm
  | [] => []
  | s :: r => flatS k s ++ flatB (k + (flatS k s).length) r
end
theorem flatB_append : ∀ (a b : List Stm) (k : Nat), flatB k (a ++ b) = flatB k a ++ flatB (k + (flatB k a).length) b
  | [], b, k => by rw [List.nil_append, flatB, List.nil_append]; rfl
  | s :: r, b, k => by
    rw [List.cons_append, flatB, flatB, flatB_append r b, List.append_assoc, List.length_append, Nat.add_assoc]
theorem flatS_pos (s : Stm) (k : Nat) : 1 ≤ (flatS k s).length := by cases s <;> rw [flatS] <;> simp
mutual
theorem flatS_le : ∀ (s : Stm) (k : Nat), (flatS k s).length ≤ 2 * szS s
  | .ite t y n, k => by
    rw [flatS, szS]
    have h1 := flatB_le y (k + 1)
    have h2 := flatB_le n (k + 1 + (flatB (k + 1) y).length + 1)
    simp only [List.length_cons, List.length_append]
    omega
  | .whl t b, k => by
    rw [flatS, szS]
    have h1 := flatB_le b (k + 1)
    simp only [List.length_cons, List.length_append, List.length_nil]
    omega
  | .set c s, k => by rw [flatS, szS]; simp
  | .put b x y, k => by rw [flatS, szS]; simp
  | .ask c w s, k => by rw [flatS, szS]; simp
  | .call r, k => by rw [flatS, szS]; simp
theorem flatB_le : ∀ (b : List Stm) (k : Nat), (flatB k b).length ≤ 2 * szB b
  | [], k => by rw [flatB]; exact Nat.zero_le _
  | s :: r, k => by
    rw [flatB, szB, List.length_append]
    have h1 := flatS_le s k
    have h2 := flatB_le r (k + (flatS k s).length)
    omega
end
/-- where the p-th statement of a body laid at k stands -/
def off (k : Nat) (b : List Stm) (p : Nat) : Nat := k + (flatB k (b.take p)).length
theorem off_zero (k : Nat) (b : List Stm) : off k b 0 = k := by unfold off; rw [List.take_zero, flatB]; rfl
theorem off_end (k : Nat) (b : List Stm) : off k b b.length = k + (flatB k b).length := by unfold off; rw [List.take_length]
theorem off_succ {k : Nat} {b : List Stm} {p : Nat} {s : Stm} (h : b[p]? = some s) : off k b (p + 1) = off k b p + (flatS (off k b p) s).length := by
  unfold off
  have e : b.take (p + 1) = b.take p ++ [s] := by rw [List.take_add_one, h]; rfl
  have e2 : flatB (k + (flatB k (b.take p)).length) [s] = flatS (k + (flatB k (b.take p)).length) s := by rw [flatB, flatB, List.append_nil]
  rw [e, flatB_append, List.length_append, e2, Nat.add_assoc]
/-- the segment xs stands at k -/
def Seg (c : List Itm) (k : Nat) (xs : List Itm) : Prop := ∀ i x, xs[i]? = some x → c[k + i]? = some x
theorem Seg.left {c : List Itm} {k : Nat} {xs ys : List Itm} (h : Seg c k (xs ++ ys)) : Seg c k xs := fun i x e => h i x (by
  have hi : i < xs.length := (List.getElem?_eq_some_iff.mp e).1
  rw [List.getElem?_append_left hi]; exact e)
theorem Seg.right {c : List Itm} {k : Nat} {xs ys : List Itm} (h : Seg c k (xs ++ ys)) : Seg c (k + xs.length) ys := fun i x e => by
  have q := h (xs.length + i) x (by rw [List.getElem?_append_right (Nat.le_add_right _ _), Nat.add_sub_cancel_left]; exact e)
  rw [Nat.add_assoc]; exact q
theorem Seg.head {c : List Itm} {k : Nat} {x : Itm} {ys : List Itm} (h : Seg c k (x :: ys)) : c[k]? = some x := h 0 x rfl
theorem Seg.tail {c : List Itm} {k : Nat} {x : Itm} {ys : List Itm} (h : Seg c k (x :: ys)) : Seg c (k + 1) ys := Seg.right (xs := [x]) h
theorem Seg.stm {c : List Itm} {k : Nat} {b : List Stm} {p : Nat} {s : Stm} (h : Seg c k (flatB k b)) (hp : b[p]? = some s) : Seg c (off k b p) (flatS (off k b p) s) := by
  have hl : p < b.length := (List.getElem?_eq_some_iff.mp hp).1
  have e : b = b.take p ++ s :: b.drop (p + 1) := by
    have q := List.drop_eq_getElem_cons hl
    have q2 : b[p] = s := by rw [List.getElem?_eq_getElem hl] at hp; exact Option.some.inj hp
    rw [q2] at q
    rw [← q, List.take_append_drop]
  have h2 : Seg c k (flatB k (b.take p ++ s :: b.drop (p + 1))) := by rw [← e]; exact h
  rw [flatB_append] at h2
  have h3 := h2.right
  rw [flatB] at h3
  exact h3.left
/-- the innermost body of the levels is laid at k in the code of the routine B -/
inductive Lay (B : List Stm) : List Lev → Nat → Prop where
  | out (p : Nat) : Lay B [(B, p)] 0
  | yes {b2 p2 lv k2 t y n} (p : Nat) : Lay B ((b2, p2) :: lv) k2 → b2[p2]? = some (.ite t y n) → Lay B ((y, p) :: (b2, p2) :: lv) (off k2 b2 p2 + 1)
  | no {b2 p2 lv k2 t y n} (p : Nat) : Lay B ((b2, p2) :: lv) k2 → b2[p2]? = some (.ite t y n) → Lay B ((n, p) :: (b2, p2) :: lv) (off k2 b2 p2 + 1 + (flatB (off k2 b2 p2 + 1) y).length + 1)
  | whl {b2 p2 lv k2 t d} (p : Nat) : Lay B ((b2, p2) :: lv) k2 → b2[p2]? = some (.whl t d) → Lay B ((d, p) :: (b2, p2) :: lv) (off k2 b2 p2 + 1)
theorem Lay.at_ {B b : List Stm} {p : Nat} {lv : List Lev} {k : Nat} (h : Lay B ((b, p) :: lv) k) (q : Nat) : Lay B ((b, q) :: lv) k := by
  cases h with
  | out p => exact .out q
  | yes p a e => exact .yes q a e
  | no p a e => exact .no q a e
  | whl p a e => exact .whl q a e
def codeB (B : List Stm) : List Itm := flatB 0 B ++ [.end_]
theorem Lay.seg {B : List Stm} : ∀ {lv : List Lev} {k : Nat}, Lay B lv k → ∀ b p r, lv = (b, p) :: r → Seg (codeB B) k (flatB k b) := by
  intro lv k h
  induction h with
  | out p =>
    intro b q r e
    injection e with e1 e2
    injection e1 with e1 e3
    subst e1
    have z : Seg (codeB B) 0 (flatB 0 B ++ [.end_]) := fun i x e => by rw [Nat.zero_add]; exact e
    exact z.left
  | @yes b2 p2 lv k2 t y n p a e ih =>
    intro b q r eq
    injection eq with e1 e2
    injection e1 with e1 e3
    subst e1
    have z := (ih b2 p2 lv rfl).stm e
    rw [flatS] at z
    exact z.tail.left
  | @no b2 p2 lv k2 t y n p a e ih =>
    intro b q r eq
    injection eq with e1 e2
    injection e1 with e1 e3
    subst e1
    have z := (ih b2 p2 lv rfl).stm e
    rw [flatS] at z
    exact z.tail.right.tail
  | @whl b2 p2 lv k2 t d p a e ih =>
    intro b q r eq
    injection eq with e1 e2
    injection e1 with e1 e3
    subst e1
    have z := (ih b2 p2 lv rfl).stm e
    rw [flatS] at z
    exact z.tail.left
theorem Lay.sg {B b : List Stm} {p : Nat} {lv : List Lev} {k : Nat} (h : Lay B ((b, p) :: lv) k) : Seg (codeB B) k (flatB k b) := h.seg b p lv rfl
/-- bodies within bodies: right ones, less deep -/
theorem Lay.ok {B : List Stm} {cells rts : Nat} (hB : OkB cells rts B) : ∀ {lv : List Lev} {k : Nat}, Lay B lv k → ∀ b p r, lv = (b, p) :: r → OkB cells rts b ∧ dpB b + r.length ≤ dpB B := by
  intro lv k h
  induction h with
  | out p =>
    intro b q r e
    injection e with e1 e2
    injection e1 with e1 e3
    subst e1 e2
    exact ⟨hB, Nat.le_refl _⟩
  | @yes b2 p2 lv k2 t y n p a e ih =>
    intro b q r eq
    injection eq with e1 e2
    injection e1 with e1 e3
    subst e1 e2
    obtain ⟨h1, h2⟩ := ih b2 p2 lv rfl
    have m := List.mem_of_getElem? e
    have h3 := OkB_mem h1 _ m
    rw [OkS] at h3
    have h4 := dpB_mem m
    rw [dpS] at h4
    refine ⟨h3.2.1, ?_⟩
    rw [List.length_cons]
    have h5 := Nat.le_max_left (dpB y) (dpB n)
    omega
  | @no b2 p2 lv k2 t y n p a e ih =>
    intro b q r eq
    injection eq with e1 e2
    injection e1 with e1 e3
    subst e1 e2
    obtain ⟨h1, h2⟩ := ih b2 p2 lv rfl
    have m := List.mem_of_getElem? e
    have h3 := OkB_mem h1 _ m
    rw [OkS] at h3
    have h4 := dpB_mem m
    rw [dpS] at h4
    refine ⟨h3.2.2, ?_⟩
    rw [List.length_cons]
    have h5 := Nat.le_max_right (dpB y) (dpB n)
    omega
  | @whl b2 p2 lv k2 t d p a e ih =>
    intro b q r eq
    injection eq with e1 e2
    injection e1 with e1 e3
    subst e1 e2
    obtain ⟨h1, h2⟩ := ih b2 p2 lv rfl
    have m := List.mem_of_getElem? e
    have h3 := OkB_mem h1 _ m
    rw [OkS] at h3
    have h4 := dpB_mem m
    rw [dpS] at h4
    refine ⟨h3.2, ?_⟩
    rw [List.length_cons]
    omega
/-- the place q in the code of B is where the levels stand -/
def At (B : List Stm) (lv : List Lev) (q : Nat) : Prop := ∃ b p r k, lv = (b, p) :: r ∧ p ≤ b.length ∧ Lay B lv k ∧ q = off k b p
theorem At.first {B : List Stm} : At B [(B, 0)] 0 := ⟨B, 0, [], 0, rfl, Nat.zero_le _, .out 0, (off_zero 0 B).symm⟩
/-- a statement: what the code holds there -/
theorem At.item {B : List Stm} {b : List Stm} {p : Nat} {r : List Lev} {q : Nat} {s : Stm} (h : At B ((b, p) :: r) q) (e : b[p]? = some s) : Seg (codeB B) q (flatS q s) := by
  obtain ⟨b', p', r', k, eq, hp, L, hq⟩ := h
  injection eq with e1 e2
  injection e1 with e1 e3
  subst e1 e2 e3
  rw [hq]
  exact L.sg.stm e
theorem At.next {B : List Stm} {b : List Stm} {p : Nat} {r : List Lev} {q : Nat} {s : Stm} (h : At B ((b, p) :: r) q) (e : b[p]? = some s) : At B ((b, p + 1) :: r) (q + (flatS q s).length) := by
  obtain ⟨b', p', r', k, eq, hp, L, hq⟩ := h
  injection eq with e1 e2
  injection e1 with e1 e3
  subst e1 e2 e3
  refine ⟨b, p + 1, r, k, rfl, (List.getElem?_eq_some_iff.mp e).1, L.at_ _, ?_⟩
  rw [off_succ e, ← hq]
theorem At.yes {B : List Stm} {b : List Stm} {p : Nat} {r : List Lev} {q : Nat} {t : Tst} {y n : List Stm} (h : At B ((b, p) :: r) q) (e : b[p]? = some (.ite t y n)) : At B ((y, 0) :: (b, p) :: r) (q + 1) := by
  obtain ⟨b', p', r', k, eq, hp, L, hq⟩ := h
  injection eq with e1 e2
  injection e1 with e1 e3
  subst e1 e2 e3
  refine ⟨y, 0, (b, p) :: r, _, rfl, Nat.zero_le _, .yes 0 L e, ?_⟩
  rw [off_zero, hq]
theorem At.no {B : List Stm} {b : List Stm} {p : Nat} {r : List Lev} {q : Nat} {t : Tst} {y n : List Stm} (h : At B ((b, p) :: r) q) (e : b[p]? = some (.ite t y n)) : At B ((n, 0) :: (b, p) :: r) (q + 1 + (flatB (q + 1) y).length + 1) := by
  obtain ⟨b', p', r', k, eq, hp, L, hq⟩ := h
  injection eq with e1 e2
  injection e1 with e1 e3
  subst e1 e2 e3
  refine ⟨n, 0, (b, p) :: r, _, rfl, Nat.zero_le _, .no 0 L e, ?_⟩
  rw [off_zero, hq]
theorem At.whl {B : List Stm} {b : List Stm} {p : Nat} {r : List Lev} {q : Nat} {t : Tst} {d : List Stm} (h : At B ((b, p) :: r) q) (e : b[p]? = some (.whl t d)) : At B ((d, 0) :: (b, p) :: r) (q + 1) := by
  obtain ⟨b', p', r', k, eq, hp, L, hq⟩ := h
  injection eq with e1 e2
  injection e1 with e1 e3
  subst e1 e2 e3
  refine ⟨d, 0, (b, p) :: r, _, rfl, Nat.zero_le _, .whl 0 L e, ?_⟩
  rw [off_zero, hq]
/-- a body that is done: one goes by a «go», or is already there -/
theorem At.exit {B : List Stm} {b : List Stm} {p : Nat} {b2 : List Stm} {p2 : Nat} {r : List Lev} {q : Nat} (h : At B ((b, p) :: (b2, p2) :: r) q) (hp : ¬ p < b.length) :
    (∃ q', (codeB B)[q]? = some (.go q') ∧ At B (if isWhl b2[p2]? then (b2, p2) :: r else onw ((b2, p2) :: r)) q') ∨ At B (if isWhl b2[p2]? then (b2, p2) :: r else onw ((b2, p2) :: r)) q := by
  obtain ⟨b', p', r', k, eq, hp', L, hq⟩ := h
  injection eq with e1 e2
  injection e1 with e1 e3
  subst e1 e2 e3
  have ep : p = b.length := by omega
  subst ep
  rw [off_end] at hq
  cases L with
  | @yes _ _ _ k2 t y n _ a e =>
    left
    have z := a.sg.stm e
    rw [flatS] at z
    have z2 := z.tail.right.head
    refine ⟨_, by rw [hq]; exact z2, ?_⟩
    have hw : isWhl b2[p2]? = false := by rw [e]; rfl
    rw [hw, if_neg Bool.false_ne_true]
    refine ⟨b2, p2 + 1, r, k2, rfl, (List.getElem?_eq_some_iff.mp e).1, a.at_ _, ?_⟩
    rw [off_succ e, flatS]
    simp only [List.length_cons, List.length_append]
    omega
  | @no _ _ _ k2 t y n _ a e =>
    right
    have hw : isWhl b2[p2]? = false := by rw [e]; rfl
    rw [hw, if_neg Bool.false_ne_true]
    refine ⟨b2, p2 + 1, r, k2, rfl, (List.getElem?_eq_some_iff.mp e).1, a.at_ _, ?_⟩
    rw [off_succ e, flatS, hq]
    simp only [List.length_cons, List.length_append]
    omega
  | @whl _ _ _ k2 t d _ a e =>
    left
    have z := a.sg.stm e
    rw [flatS] at z
    have z2 := z.tail.right.head
    refine ⟨_, by rw [hq]; exact z2, ?_⟩
    have hw : isWhl b2[p2]? = true := by rw [e]; rfl
    rw [hw, if_pos rfl]
    exact ⟨b2, p2, r, k2, rfl, Nat.le_of_lt (List.getElem?_eq_some_iff.mp e).1, a, rfl⟩
theorem At.last {B : List Stm} {b : List Stm} {p : Nat} {q : Nat} (h : At B [(b, p)] q) (hp : ¬ p < b.length) : (codeB B)[q]? = some .end_ := by
  obtain ⟨b', p', r', k, eq, hp', L, hq⟩ := h
  injection eq with e1 e2
  injection e1 with e1 e3
  subst e1 e2 e3
  have ep : p = b.length := by omega
  subst ep
  rw [off_end] at hq
  cases L with
  | out _ =>
    unfold codeB
    rw [hq, Nat.zero_add, List.getElem?_append_right (Nat.le_refl _), Nat.sub_self]
    rfl
/-! ### the standing and the law's stack -/
/-- a routine below the last: it stands before a call; the law's place is behind it -/
def Wait (rs : List (List Stm)) (o : Rou) (l : Nat × Nat) : Prop := o.1 = l.1 ∧ l.1 < rs.length ∧ ∃ b p r, o.2 = (b, p) :: r ∧ (∃ c, b[p]? = some (.call c)) ∧ At (rs.getD l.1 []) ((b, p + 1) :: r) l.2
inductive Waits (rs : List (List Stm)) : Opn → List (Nat × Nat) → Prop where
  | nil : Waits rs [] []
  | cons {o l os ls} : Wait rs o l → Waits rs os ls → Waits rs (o :: os) (l :: ls)
/-- the open routines and the law's stack tell the same place -/
inductive Sim (rs : List (List Stm)) : Opn → List (Nat × Nat) → Prop where
  | nil : Sim rs [] []
  | cons {n lv q os ls} : n < rs.length → At (rs.getD n []) lv q → Waits rs os ls → Sim rs ((n, lv) :: os) ((n, q) :: ls)
theorem Waits.len {rs : List (List Stm)} {o : Opn} {l : List (Nat × Nat)} (h : Waits rs o l) : o.length = l.length := by
  induction h with
  | nil => rfl
  | cons _ _ ih => rw [List.length_cons, List.length_cons, ih]
theorem Sim.len {rs : List (List Stm)} {o : Opn} {l : List (Nat × Nat)} (h : Sim rs o l) : o.length = l.length := by
  cases h with
  | nil => rfl
  | cons _ _ w => rw [List.length_cons, List.length_cons, w.len]
theorem Waits.fst {rs : List (List Stm)} {o : Opn} {l : List (Nat × Nat)} (h : Waits rs o l) : o.map (·.1) = l.map (·.1) := by
  induction h with
  | nil => rfl
  | cons a _ ih => rw [List.map_cons, List.map_cons, ih, a.1]
theorem Sim.fst {rs : List (List Stm)} {o : Opn} {l : List (Nat × Nat)} (h : Sim rs o l) : o.map (·.1) = l.map (·.1) := by
  cases h with
  | nil => rfl
  | cons _ _ w => rw [List.map_cons, List.map_cons, w.fst]
/-- the last opened one: a statement is next, or nothing is open -/
def Set_ (o : Opn) : Prop := o = [] ∨ ∃ s, nextP o = some s
theorem settledP_stop {n : Nat} {b : List Stm} {p : Nat} {lv : List Lev} {rest : Opn} (h : p < b.length) : settledP ((n, (b, p) :: lv) :: rest) = (n, (b, p) :: lv) :: rest := by
  rw [settledP.eq_def]; dsimp only; rw [if_pos h]
theorem settledP_in {n : Nat} {b b2 : List Stm} {p p2 : Nat} {lv : List Lev} {rest : Opn} (h : ¬ p < b.length) : settledP ((n, (b, p) :: (b2, p2) :: lv) :: rest) = settledP ((n, if isWhl b2[p2]? then (b2, p2) :: lv else onw ((b2, p2) :: lv)) :: rest) := by
  rw [settledP.eq_def]; dsimp only; rw [if_neg h]
theorem settledP_out {n : Nat} {b : List Stm} {p n2 : Nat} {lv2 : List Lev} {rest : Opn} (h : ¬ p < b.length) : settledP ((n, [(b, p)]) :: (n2, lv2) :: rest) = settledP ((n2, onw lv2) :: rest) := by
  rw [settledP.eq_def]; dsimp only; rw [if_neg h]
theorem settledP_end {n : Nat} {b : List Stm} {p : Nat} (h : ¬ p < b.length) : settledP [(n, [(b, p)])] = [] := by
  unfold settledP; rw [if_neg h]
theorem settledP_nil : settledP [] = [] := by unfold settledP; rfl
/-- how the law's settling goes: it stands at a statement; or at a «go»; or at the end -/
theorem Sim.move {rs : List (List Stm)} : ∀ (m : Nat) {o : Opn} {l : List (Nat × Nat)}, levs o ≤ m → Sim rs o l →
    (l = [] ∧ settledP o = []) ∨
    (∃ n q ls s, l = (n, q) :: ls ∧ Sim rs (settledP o) l ∧ nextP (settledP o) = some s ∧ Seg (codeB (rs.getD n [])) q (flatS q s) ∧ n < rs.length) ∨
    (∃ n q q' ls o', l = (n, q) :: ls ∧ n < rs.length ∧ (codeB (rs.getD n []))[q]? = some (.go q') ∧ Sim rs o' ((n, q') :: ls) ∧ settledP o' = settledP o ∧ levs o' < levs o) ∨
    (∃ n q ls o', l = (n, q) :: ls ∧ n < rs.length ∧ (codeB (rs.getD n []))[q]? = some .end_ ∧ Sim rs o' ls ∧ settledP o' = settledP o ∧ levs o' < levs o)
  | m, o, l, hm, S => by
   cases S with
   | nil => exact .inl ⟨rfl, settledP_nil⟩
   | @cons n lv q os ls hn a w =>
    obtain ⟨b, p, r, k, rfl, hp, L, hq⟩ := id a
    by_cases c : p < b.length
    · have e : b[p]? = some b[p] := List.getElem?_eq_getElem c
      have es := settledP_stop (n := n) (lv := r) (rest := os) c
      refine .inr (.inl ⟨n, q, ls, b[p], rfl, by rw [es]; exact .cons hn a w, by rw [es]; exact e, a.item e, hn⟩)
    · cases r with
      | cons x r =>
        obtain ⟨b2, p2⟩ := x
        have es := settledP_in (n := n) (b2 := b2) (p2 := p2) (lv := r) (rest := os) c
        have hl : levs ((n, if isWhl b2[p2]? then (b2, p2) :: r else onw ((b2, p2) :: r)) :: os) < levs ((n, (b, p) :: (b2, p2) :: r) :: os) := by
          split <;> (simp only [levs, onw, List.length_cons]; omega)
        rcases a.exit c with ⟨q', h1, h2⟩ | h2
        · exact .inr (.inr (.inl ⟨n, q, q', ls, _, rfl, hn, h1, .cons hn h2 w, es.symm, hl⟩))
        · cases m with
          | zero => simp only [levs, List.length_cons] at hm; omega
          | succ m =>
            have S2 : Sim rs ((n, if isWhl b2[p2]? then (b2, p2) :: r else onw ((b2, p2) :: r)) :: os) ((n, q) :: ls) := .cons hn h2 w
            rcases Sim.move m (by omega) S2 with ⟨z, _⟩ | ⟨n', q0, ls', s, z, z2, z3, z4, z5⟩ | ⟨n', q0, q', ls', o', z, z2, z3, z4, z5, z6⟩ | ⟨n', q0, ls', o', z, z2, z3, z4, z5, z6⟩
            · cases z
            · exact .inr (.inl ⟨n', q0, ls', s, z, by rw [es]; exact z2, by rw [es]; exact z3, z4, z5⟩)
            · exact .inr (.inr (.inl ⟨n', q0, q', ls', o', z, z2, z3, z4, by rw [es]; exact z5, by omega⟩))
            · exact .inr (.inr (.inr ⟨n', q0, ls', o', z, z2, z3, z4, by rw [es]; exact z5, by omega⟩))
      | nil =>
        refine .inr (.inr (.inr ⟨n, q, ls, ?_⟩))
        cases w with
        | nil => exact ⟨[], rfl, hn, a.last c, .nil, by rw [settledP_end c, settledP_nil], by simp only [levs, List.length_cons]; omega⟩
        | @cons o2 l2 os2 ls2 hw ws =>
          obtain ⟨n2, lv2⟩ := o2
          obtain ⟨m2, q2⟩ := l2
          obtain ⟨e1, e2, b3, p3, r3, e3, ⟨cc, e4⟩, e5⟩ := hw
          have e1 : n2 = m2 := e1
          subst e1
          have e3 : lv2 = (b3, p3) :: r3 := e3
          subst e3
          exact ⟨(n2, onw ((b3, p3) :: r3)) :: os2, rfl, hn, a.last c, .cons e2 e5 ws, (settledP_out c).symm, by simp only [levs, onw, List.length_cons]; omega⟩
/-- settled is settled -/
theorem settled_set {rs : List (List Stm)} : ∀ (m : Nat) {o : Opn} {l : List (Nat × Nat)}, levs o ≤ m → Sim rs o l → ∃ l', Sim rs (settledP o) l' ∧ Set_ (settledP o) ∧ (settledP o).length ≤ o.length
  | m, o, l, hm, S => by
   cases S with
   | nil => exact ⟨[], by rw [settledP_nil]; exact .nil, .inl settledP_nil, by rw [settledP_nil]; exact Nat.le_refl _⟩
   | @cons n lv q os ls hn a w =>
    obtain ⟨b, p, r, k, rfl, hp, L, hq⟩ := id a
    by_cases c : p < b.length
    · have e : b[p]? = some b[p] := List.getElem?_eq_getElem c
      have es := settledP_stop (n := n) (lv := r) (rest := os) c
      rw [es]
      exact ⟨_, .cons hn a w, .inr ⟨_, e⟩, Nat.le_refl _⟩
    · cases m with
      | zero => simp only [levs, List.length_cons] at hm; omega
      | succ m =>
        cases r with
        | cons x r =>
          obtain ⟨b2, p2⟩ := x
          have es := settledP_in (n := n) (b2 := b2) (p2 := p2) (lv := r) (rest := os) c
          have hl : levs ((n, if isWhl b2[p2]? then (b2, p2) :: r else onw ((b2, p2) :: r)) :: os) ≤ m := by
            simp only [levs, List.length_cons] at hm
            split <;> (simp only [levs, onw, List.length_cons]; omega)
          rw [es]
          rcases a.exit c with ⟨q', _, h2⟩ | h2
          · exact settled_set m hl (.cons hn h2 w)
          · exact settled_set m hl (.cons hn h2 w)
        | nil =>
          cases w with
          | nil => rw [settledP_end c]; exact ⟨[], .nil, .inl rfl, Nat.zero_le _⟩
          | @cons o2 l2 os2 ls2 hw ws =>
            obtain ⟨n2, lv2⟩ := o2
            obtain ⟨m2, q2⟩ := l2
            obtain ⟨e1, e2, b3, p3, r3, e3, ⟨cc, e4⟩, e5⟩ := hw
            have e1 : n2 = m2 := e1
            subst e1
            have e3 : lv2 = (b3, p3) :: r3 := e3
            subst e3
            rw [settledP_out c]
            have hl : levs ((n2, onw ((b3, p3) :: r3)) :: os2) ≤ m := by
              simp only [levs, List.length_cons] at hm
              simp only [levs, onw, List.length_cons]; omega
            obtain ⟨l', h1, h2, h3⟩ := settled_set m hl (.cons (rs := rs) e2 (show At _ (onw ((b3, p3) :: r3)) q2 from e5) ws)
            exact ⟨l', h1, h2, Nat.le_trans h3 (by simp only [List.length_cons]; omega)⟩
end K34

set_option Elab.async false
set_option linter.all false
set_option maxRecDepth 100000
set_option maxHeartbeats 4000000
/-! K2: rules of our own (tuple * int, enumerate of a tuple, d.get of a written dict, zip of tuples as a walk); what is kept; kinds of values; the data on the heap. -/
namespace K34
open PySem PySem.Spec PyProof.Rows L2

/-! ### tuple * int, one time too -/
theorem tuple_mul1 (l : Addr) (items : Array Value) (n : Nat) (sl : Array (Option Value)) (dd : Option Addr) (u : Tok) :
    Meets (Builtin.«tuple.__mul__» ⟨[.ref l, .int 1 u], []⟩) (fun _ R s => s.heap.get? l = some { cls := .type "tuple", dict := dd, data := .seq items n, slots := sl } ∧ R (.ok (.ret (Value.ref l))) s) :=
  .of_wp fun prog w A R s h => by
    obtain ⟨hp, g, d, tk, os⟩ := s
    obtain ⟨hl, h⟩ := h
    have f1 := AutoSeq1.idx_int
    wp_walk using AutoSeq1.wpAny_loadPart' hl
    repeat (first
      | (refine wpAny_ite_true (by simp) ?_; wp_walk using AutoSeq1.wpAny_loadPart' hl)
      | (refine wpAny_ite_false (by simp) ?_; wp_walk using AutoSeq1.wpAny_loadPart' hl))
    exact ⟨_, rfl, h⟩
def rRepA (K : PySem.W.Frag) : R2 := fun x y H Q => ∃ l k xs, x = .ref l ∧ y = .int k ∧ SqT K H l xs ∧ xs ≠ [] ∧ 1 ≤ k ∧ k ≤ 1000 ∧ xs.length ≤ 1000 ∧ (k = 1 → Q (.ref l) H) ∧ (2 ≤ k → ∀ p, H p = none → Q (.ref p) (upd H p (.tup (List.replicate k.toNat xs).flatten)))
section
variable {X : Cx}
theorem op_repA : OpR X (binaryOp .Mult) (rRepA X.K) := by
  intro pins s σ H x y v u Q I rx ry h
  obtain ⟨l, k, xs, rfl, rfl, hT, hne, h1, h2, hz, q1, q2⟩ := h
  by_cases hk : k = 1
  · subst hk
    cases rx
    obtain ⟨t, rfl⟩ := ry
    obtain ⟨its, r, ⟨⟨cls, dd, data, sl⟩, ho, hc, n, hd⟩, hs⟩ := I.tuple hT
    simp only at hc hd
    subst hc hd
    refine wpAny_binaryOp_repeat_ref (T := "tuple") (U := "int") (by decide) ⟨_, ho, rfl⟩ (fun s' => typeIs_int s' 1 t) noFill_tuple_mul F.fills_int_mul F.slot_int_rmul repeat_tuple F.slot_int_index.lookup
      (call_meets F.slot_int_rmul (typeIs_int s 1 t) F.entry_int_rmul (F.args_int_rmul_2 _ _) (int_rmul_tuple 1 t l its.toArray n dd sl)
        ⟨ho, rfl, ⟨_, ho, rfl⟩, call_meets F.slot_tuple_mul ⟨_, ho, rfl⟩ F.entry_tuple_mul (F.args_tuple_mul_2 _ _) (tuple_mul1 l its.toArray n sl dd t) ⟨ho, ?_⟩⟩)
    exact ⟨.ref l, H, I, rfl, q1 rfl⟩
  · exact op_repT pins s σ H _ _ v u Q I rx ry ⟨l, k, xs, rfl, rfl, hT, hne, by omega, h2, hz, q2 (by omega)⟩
end

/-! ### enumerate(tuple) -/
theorem meets_enumerate_newT (l : Addr) (items : Array Value) (n : Nat) (dct : Option Addr) (sl : Array (Option Value)) :
    Meets (Builtin.«enumerate.__new__» ⟨[.type "enumerate", .ref l], []⟩) (fun _ R s => s.heap.get? l = some { cls := .type "tuple", dict := dct, data := .seq items n, slots := sl } ∧
      R (.ok (.ret (.ref (s.heap.push { cls := .type "tuple_iterator", data := .fields #[.ref l, .int 0 0] }).objs.size)))
        { s with heap := (s.heap.push { cls := .type "tuple_iterator", data := .fields #[.ref l, .int 0 0] }).push { cls := .type "enumerate", data := .fields #[.none, .bool false, .ref s.heap.objs.size, rawInt 0, .none, .none] } }) :=
  .of_wp fun prog w A R s h => by
    obtain ⟨hp, g, d, tk, os⟩ := s; obtain ⟨hl, h⟩ := h
    have hsub := sub_enumerate
    have hL : Heap.IsTuple (Shared.heap ⟨hp, g, d, tk, os⟩) l items := ⟨_, hl, rfl, n, rfl⟩
    wp_walk using AutoSeq1.wpAny_loadPart' hl
    refine wpAny_stack_any fun st => wpAny_pure ?_
    split
    · rename_i c _ _ _ _ _
      cases (c == Value.type "enumerate")
      · wp_walk using AutoSeq1.wpAny_loadPart' hl, wpAny_pyIter_tuple hL
        exact ⟨_, rfl, h⟩
      · wp_walk using AutoSeq1.wpAny_loadPart' hl, wpAny_pyIter_tuple hL
        exact ⟨_, rfl, h⟩
    · wp_walk using AutoSeq1.wpAny_loadPart' hl, wpAny_pyIter_tuple hL
      exact ⟨_, rfl, h⟩
theorem call_enumerate_tuple {prog : Program} {w : World} {A : Around} {E : Value → Shared → Prop} {s : Shared} {l : Addr} {items : Array Value} {Q : Value → Shared → Prop} (hL : s.heap.IsTuple l items)
    (h : ∀ h', IsEnum h' (s.heap.objs.size + 1) s.heap.objs.size 0 .none → h'.IsTupleIter s.heap.objs.size l 0 → h'.objs.size = s.heap.objs.size + 2 →
      (∀ b o, s.heap.get? b = some o → h'.get? b = some o) → Q (.ref (s.heap.objs.size + 1)) { s with heap := h' }) :
    wpAny (model prog w) A (call (.type "enumerate") [.ref l]) Q E s := by
  obtain ⟨⟨c, dct, dt, sl⟩, hl, hc, n, hd⟩ := hL
  replace hc : c = .type "tuple" := hc
  replace hd : dt = .seq items n := hd
  subst hc hd
  refine callType_new F.called_enumerate (by decide) (F.typeCall_enumerate_1 _) (F.newCall_enumerate_1 _) (fun obj => F.args_object_init_2 obj _) F.entry_enumerate_new
    (meets_enumerate_newT l items n dct sl) ⟨hl, ?_⟩
  have hz : (s.heap.push { cls := .type "tuple_iterator", data := .fields #[.ref l, .int 0 0] }).objs.size = s.heap.objs.size + 1 := Heap.size_push ..
  show _ ∧ _
  rw [hz]
  have he : IsEnum ((s.heap.push { cls := .type "tuple_iterator", data := .fields #[.ref l, .int 0 0] }).push
      { cls := .type "enumerate", data := .fields #[.none, .bool false, .ref s.heap.objs.size, rawInt 0, .none, .none] }) (s.heap.objs.size + 1) s.heap.objs.size 0 .none := by
    have := Heap.get?_push_size (s.heap.push { cls := .type "tuple_iterator", data := .fields #[.ref l, .int 0 0] })
      (o := { cls := .type "enumerate", data := .fields #[.none, .bool false, .ref s.heap.objs.size, rawInt 0, .none, .none] }) rfl
    rw [hz] at this; exact this
  refine ⟨⟨_, he, rfl⟩, h _ he ⟨_, Heap.get?_push_of_some _ (Heap.get?_push_size _ rfl), rfl, rfl⟩ (by rw [Heap.size_push, hz]) fun b o x => Heap.get?_push_of_some _ (Heap.get?_push_of_some _ x)⟩
/-- the tuple at a, each item in a new pair -/
def IteT (K : PySem.W.Frag) (a : Addr) : It :=
  ⟨fun i H => ∃ (xs : List V) (x : V), SqT K H a xs ∧ xs[i]? = some x, fun i H v H' => ∃ T x, v = .ref T ∧ H T = none ∧ H' = upd H T (.tup [.int (i : Nat), x]) ∧ ∀ xs, SqT K H a xs → xs[i]? = some x, fun i H => ∃ xs : List V, SqT K H a xs ∧ xs.length = i⟩
theorem turn_enumT {P : Program} {w : World} {K : PySem.W.Frag} {elts : List Expr} {kk : Nat} {tpos : Pos} (a e it : Addr) (hai : a ≠ it) (hae : a ≠ e) :
    Turn P w K (.Tuple elts kk tpos) (IteT K a) [e, it] e (fun i h => (∃ old, IsEnum h e it ((i : Nat) : Int) old) ∧ h.IsTupleIter it a i ∧ e ≠ it) where
  mem := by simp
  obj := fun i h st b hb => by
    obtain ⟨⟨old, he⟩, ⟨o, ho, hc, hd⟩, _⟩ := st
    have e' : b = e ∨ b = it := by simpa using hb
    rcases e' with z | z
    · rw [z]; exact ⟨_, he, fun v q => nomatch q⟩
    · rw [z]; exact ⟨o, ho, fun v q => by rw [hd] at q; cases q⟩
  keep := fun i h h' st k => let ⟨⟨old, he⟩, hi, hne⟩ := st; ⟨⟨old, k e (by simp) _ he⟩, hi.at fun o q => k it (by simp) o q, hne⟩
  item := by
    intro X hP hw hK hc i pins s σ H E I hf st hg
    subst hP hw hK
    obtain ⟨⟨old, he⟩, hit, hne⟩ := st
    obtain ⟨xs, x, hq, hx⟩ := hg
    obtain ⟨its, rv, p, hz⟩ := I.tuple hq
    obtain ⟨u, hu, ru⟩ := rv.get hx
    have hel : e < s.heap.objs.size := Heap.lt_size he
    have hil : it < s.heap.objs.size := by obtain ⟨_, q, _⟩ := hit; exact Heap.lt_size q
    have hlt : i < its.toArray.size := by rw [List.size_toArray]; exact (List.getElem?_eq_some_iff.mp hu).1
    refine wpAny_pyNext_enum_itemC (Draws.tuple (prog := X.prog) (w := X.w) (A := X.A.in1) (by show X.A.handled = none; exact I.ok.hd hc) it a hai its.toArray) he ⟨hit, p⟩ hlt hne (by simp [hne, Ne.symm hae]) fun y h' tk hy ho hst' hT hsz hk => ?_
    have ey : y = u := by
      have q : its[i]? = some y := by simpa using hy
      rw [hu] at q
      exact (Option.some.inj q).symm
    subst ey
    refine ⟨_, rfl, wpAny_letOwnedTupleGo_enum (s := { s with heap := h', toks := tk + 1 }) ho fun h'' he' sb => ?_⟩
    have hT2 : h''.get? s.heap.objs.size = some { cls := .type "tuple", data := .seq #[.int i tk, y] } := (sb.2 _ (Nat.ne_of_gt hel)).trans hT
    have new : ObjOk X.prog X.w (upd H s.heap.objs.size (.tup [.int (i : Nat), x])) h'' s.heap.objs.size (.tup [.int (i : Nat), x]) :=
      ⟨by show 2 ≤ sizeLine; decide, [.int i tk, y], .cons ⟨_, rfl⟩ (.cons ru .nil), ⟨_, hT2, rfl, _, rfl⟩⟩
    have I1 : Inv X pins σ (upd H s.heap.objs.size (.tup [.int (i : Nat), x])) { s with heap := h'', toks := tk + 1 } :=
      I.turnedNew (ch := [e, it]) (fun b ob hb q => (sb.2 b (fun z => hb (by simp [z]))).trans (hk b ob (fun z => hb (by simp [z])) (fun z => hb (by simp [z])) q)) hf (Nat.le_refl _) new
    refine ⟨.ref s.heap.objs.size, _, I1, rfl, ⟨_, x, rfl, I.hok.fresh (Nat.le_refl _), rfl, fun ys hy => by rw [I.tuple_inj hy hq]; exact hx⟩, ⟨⟨y, ?_⟩, hst'.1.at fun o q => (sb.2 it (Ne.symm hne)).trans q, hne⟩, fun b hb => ?_⟩
    · have e1 : ((i + 1 : Nat) : Int) = (i : Int) + 1 := by omega
      rw [e1]; exact he'
    · have hb' : b < s.heap.objs.size := by
        have e' : b = e ∨ b = it := by simpa using hb
        rcases e' with z | z
        · rw [z]; exact hel
        · rw [z]; exact hil
      rw [upd_ne (Nat.ne_of_lt hb')]
      exact (hf b hb).1
  done := by
    intro X hP hw hK hc i pins s σ H E I hf st hg
    subst hP hw hK
    obtain ⟨⟨old, he⟩, hit, hne⟩ := st
    obtain ⟨xs, hq, hx⟩ := hg
    obtain ⟨its, rv, p, hz⟩ := I.tuple hq
    obtain ⟨f0, f1, f2, f3, f4, f5⟩ := hf it (by simp)
    have hl := rv.length
    have ei : i = its.toArray.size := by rw [List.size_toArray]; omega
    subst ei
    exact wpAny_pyNext_enum_endD (Draws.tuple (prog := X.prog) (w := X.w) (A := X.A.in1) (by show X.A.handled = none; exact I.ok.hd hc) it a hai its.toArray) he ⟨hit, p⟩ fun h' eb => ⟨rfl, I.turned (t' := s.toks) (fun b o hb q => eb b o hb q) f0 f1 f3 f4 f5⟩
  self := fun A i s Q E st h => let ⟨⟨_, he⟩, _⟩ := st; wpAny_pyIter_enum he h

def iEnumT (K : PySem.W.Frag) (ta : TA) : TI := fun σ H R => ta σ H fun vs H1 => ∃ a xs, vs = [.ref a] ∧ SqT K H1 a xs ∧ R (IteT K a) H1
theorem pi_enumT {X : Cx} {e : Expr} {ta : TA} {p pos tpos : Pos} {elts : List Expr} {kk : Nat} (hg : Gl X "enumerate") (hm : X.mg "enumerate" = none) (ha : PA X [e] ta) (hs : starEach [e] X.env = [(false, eval e X.env)] := by rfl) :
    PI X (.Tuple elts kk tpos) (.Call (.Name "enumerate" p) [e] [] pos) (iEnumT X.K ta) := by
  refine ⟨fun pins s σ H R I h => ?_⟩
  refine Call_ (ld_blt I hg hm boot_enumerate (PyProof.Rows.callWith_type1 (thn (ha.run pos pins s σ H _ I h) fun us s1 ⟨vs, H1, I1, r1, q1⟩ => ?_) hs rfl))
  obtain ⟨a, xs, ex, hq, q⟩ := q1
  subst ex
  cases r1 with
  | cons r rr =>
    cases rr
    cases r
    obtain ⟨its, rv, p', hz⟩ := I1.tuple hq
    have la : a < s1.heap.objs.size := p'.lt
    refine call_enumerate_tuple p' fun h' he hit hsz hk => wpAny_pyIter_enum he ?_
    have I2 : Inv X pins σ H1 { s1 with heap := h' } := I1.kept (t' := s1.toks) hk
    refine ⟨s1.heap.objs.size + 1, [s1.heap.objs.size + 1, s1.heap.objs.size], _, _, H1, rfl, I2, turn_enumT a (s1.heap.objs.size + 1) s1.heap.objs.size (Nat.ne_of_lt la) (Nat.ne_of_lt (Nat.lt_succ_of_lt la)), ⟨⟨.none, he⟩, hit, Nat.succ_ne_self _⟩, fun b hb => ?_, q⟩
    have e' : b = s1.heap.objs.size + 1 ∨ b = s1.heap.objs.size := by simpa using hb
    have hle : s1.heap.objs.size ≤ b := by
      rcases e' with z | z
      · rw [z]; exact Nat.le_add_right _ _
      · rw [z]; exact Nat.le_refl _
    exact I1.fpOk hle (I1.hok.fresh hle)
theorem walk_enumT {K : PySem.W.Frag} {a : Addr} {xs : List V} : Walk (IteT K a) xs.length (fun H => SqT K H a xs) (YPair (fun i => some (.int (i : Nat))) (fun i => xs[i]?)) := by
  refine ⟨fun i _ hi q => ⟨xs, xs[i], q, by simp [hi]⟩, fun _ q => ⟨xs, q, rfl⟩, fun i H v H' _ q y => ?_⟩
  obtain ⟨T, x, h1, h2, h3, h4⟩ := y
  exact ⟨T, .int (i : Nat), x, h1, h2, h3, rfl, h4 xs q⟩
theorem walk_zipT {K : PySem.W.Frag} {a b : Addr} {xs ys : List V} {n : Nat} (hn : n = min xs.length ys.length) : Walk (RZ.ItzT K a b) n (fun H => SqT K H a xs ∧ SqT K H b ys) (YPair (fun i => xs[i]?) (fun i => ys[i]?)) := by
  subst hn
  refine ⟨fun i _ hi q => ?_, fun _ q => ⟨xs, ys, q.1, q.2, by omega⟩, fun i H v H' _ q y => ?_⟩
  · have h1 : i < xs.length := by omega
    have h2 : i < ys.length := by omega
    exact ⟨xs, ys, xs[i], ys[i], q.1, q.2, by simp [h1], by simp [h2]⟩
  · obtain ⟨T, x, z, h1, h2, h3, h4, h5⟩ := y
    exact ⟨T, x, z, h1, h2, h3, h4 xs q.1, h5 ys q.2⟩

/-! ### d.get(k, x) of a written dict, there -/
theorem pe_kget2 {X : Cx} {o e f : Expr} {apos cpos : Pos} {ty tx : TE} {d : Addr} {kvs : List (Str × Int)} (D : ∃ es n, KDict X.K X.w d es n) (Dv : ∀ q ∈ kvs, ∃ u, PySem.W.nsIn X.K d q.1 = some (some u) ∧ RelV (.int q.2) u) (ho : PE X o (tC (.ref d))) (he : PE X e ty) (hf : PE X f tx) (m : M2 X o "get" apos e f cpos) :
    PE X (.Call (.Attribute o "get" apos) [e, f] [] cpos) (fun σ H Q => ty σ H fun y H2 => tx σ H2 fun _ H3 => ∃ k v, y = .str k ∧ (k, v) ∈ kvs ∧ Q (.int v) H3) := by
  obtain ⟨es, n, D⟩ := D
  refine ⟨fun pins s σ H Q I h => ?_⟩
  refine wpAny_Call_method m.base m.few m.line PySem.F.plainAttrs_dict PySem.F.slot_dict_get PySem.F.type_dict_get (thn (ho.run pins s σ H (fun x H1 => x = .ref d ∧ H1 = H) I ⟨rfl, rfl⟩) fun u s1 ⟨x, H1, I1, rx, ex, eh⟩ => ?_)
  subst ex eh
  obtain rfl : u = Value.ref d := rx
  refine ⟨kd_type D I1, fun b q => ?_, ?_⟩
  · cases q
    exact ⟨_, I1.kIn _ _ D.at_, rfl⟩
  rw [m.trees]
  refine Calls.callWith_builtin rfl (Calls.evalArgs_plain (Calls.spliced_cons (thn (he.run pins s1 σ H1 _ I1 h) fun iv s2 ⟨y, H2, I2, ry, q2⟩ =>
    Calls.spliced_cons (thn (hf.run pins s2 σ H2 _ I2 q2) fun fv s3 ⟨z, H3, I3, rz, k, v, ey, hm, q3⟩ => Calls.spliced_nil ?_))))
  subst ey
  obtain ⟨t, rfl⟩ := ry
  obtain ⟨u0, e0, r0⟩ := Dv (k, v) hm
  have hmap := PySem.W.mapOf_K (prog := X.prog) (w := X.w) I3.kIn D.at_ D.lit
  refine call_meetsIn PySem.F.slot_dict_get hmap.typeIs PySem.F.entry_dict_get (PySem.F.args_dict_get_3 _ _ _) (meets_dict_get_default (strKind X.prog X.w) d (PySem.strKind_is X.prog X.w k t) D.low fv) ⟨_, hmap, ?_⟩
  rw [PySem.W.find_K D.at_ e0]
  exact ⟨.int v, H3, I3.tok _, r0, q3⟩

/-! ### kinds of values, for isinstance -/
inductive KTy (H : Hp) : V → String → Prop where
  | non : KTy H .non "NoneType"
  | bl (b : Bool) : KTy H (.bl b) "bool"
  | int (i : Int) : KTy H (.int i) "int"
  | str (x : Str) : KTy H (.str x) "str"
  | lst {a : Addr} {xs : List V} (e : H a = some (.lst xs)) : KTy H (.ref a) "list"
  | tup {a : Addr} {xs : List V} (e : H a = some (.tup xs)) : KTy H (.ref a) "tuple"
  | dK {a : Addr} {kvs : List (Key × V)} (e : H a = some (.dK kvs)) : KTy H (.ref a) "dict"
theorem KTy.tyX {K : PySem.W.Frag} {H : Hp} {v : V} {T : String} (h : KTy H v T) : TyX K H v (.type T) := by
  cases h with
  | non => exact .base .non
  | bl b => exact .base (.bl b)
  | int i => exact .base (.int i)
  | str x => exact .base (.str x)
  | lst e => exact .base (.lst e)
  | tup e => exact .base (.tup e)
  | dK e => exact .base (.dK e)
theorem KTy.kint {K : PySem.W.Frag} {H : Hp} {v : V} {T : String} (h : KTy H v T) : PySem.W.kitOne K (.type T) (.type "int") = some (T == "int" || T == "bool") := by
  cases h <;> exact kit_ty (by decide +kernel)
theorem KTy.kbool {K : PySem.W.Frag} {H : Hp} {v : V} {T : String} (h : KTy H v T) : PySem.W.kitOne K (.type T) (.type "bool") = some (T == "bool") := by
  cases h <;> exact kit_ty (by decide +kernel)
theorem KTy.kstr {K : PySem.W.Frag} {H : Hp} {v : V} {T : String} (h : KTy H v T) : PySem.W.kitOne K (.type T) (.type "str") = some (T == "str") := by
  cases h <;> exact kit_ty (by decide +kernel)
theorem KTy.ktup {K : PySem.W.Frag} {H : Hp} {v : V} {T : String} (h : KTy H v T) : PySem.W.kitOne K (.type T) (.type "tuple") = some (T == "tuple") := by
  cases h <;> exact kit_ty (by decide +kernel)
/-- isinstance's reading, answered -/
theorem isi {K : PySem.W.Frag} {H : Hp} {v : V} {T U : String} {b : Bool} {Q : VK} (h : KTy H v T) (e : PySem.W.kitOne K (.type T) (.type U) = some b) (q : Q (.bl b) H) : rIsi K [v, .ty U] H Q := ⟨v, .ty U, .type T, .type U, b, rfl, .ty U, h.tyX, e, q⟩

/-! ### what is kept -/
/-- all that is tracked but what stands at h -/
def Ext (h : Addr) (H H' : Hp) : Prop := ∀ b o, H b = some o → b ≠ h → H' b = some o
def Tups (H H' : Hp) : Prop := ∀ b xs, H b = some (.tup xs) → H' b = some (.tup xs)
section
variable {H H1 H2 H' : Hp} {h p : Addr} {o u : HO}
theorem Ext.refl : Ext h H H := fun _ _ e _ => e
theorem Ext.trans (a : Ext h H H1) (b : Ext h H1 H2) : Ext h H H2 := fun c o e n => b c o (a c o e n) n
theorem Same.ext (a : Same H H') : Ext h H H' := fun c o e _ => a c o e
theorem Ext.upd (e : Ext h H H') : Ext h H (upd H' h o) := fun c o' e' n => by rw [upd_ne n]; exact e c o' e' n
theorem Ext.new (e : Ext h H H') (hp : H' p = none) : Ext h H (L2.upd H' p o) := fun c o' e' n => by
  rw [upd_ne (ne_of_none (e c o' e' n) hp)]; exact e c o' e' n
theorem Ext.thenSame (e : Ext h H H') (s : Same H' H2) : Ext h H H2 := fun c o e' n => s c o (e c o e' n)
theorem Same.new (hp : H p = none) : Same H (L2.upd H p o) := fun c o' e' => by rw [upd_ne (ne_of_none e' hp)]; exact e'
theorem Same.then_ (a : Same H H') (hp : H' p = none) : Same H (L2.upd H' p o) := a.trans (Same.new hp)
/-- something that H did not know has changed -/
theorem Same.mut (a : Same H H') (hp : H p = none) : Same H (L2.upd H' p o) := fun c o' e' => by rw [upd_ne (ne_of_none e' hp)]; exact a c o' e'
theorem Ext.mut (a : Ext h H H') (hp : H p = none) : Ext h H (L2.upd H' p o) := fun c o' e' n => by rw [upd_ne (ne_of_none e' hp)]; exact a c o' e' n
/-- .. by a call that may change p alone -/
theorem Same.ext1 (a : Same H H') (hp : H p = none) (b : Ext p H' H2) : Same H H2 := fun c o e => b c o (a c o e) (ne_of_none e hp)
theorem Ext.ext1 (a : Ext h H H') (hp : H p = none) (b : Ext p H' H2) : Ext h H H2 := fun c o e n => b c o (a c o e n) (ne_of_none e hp)
theorem Ext.free (a : Ext h H H') (hh : H h = some u) (hh' : H' h = some o) (hp : H' p = none) : H p = none := by
  cases q : H p with
  | none => rfl
  | some v =>
    by_cases n : p = h
    · subst n; rw [hh'] at hp; cases hp
    · rw [a p v q n] at hp; cases hp
theorem Same.tups (a : Same H H') : Tups H H' := fun b xs e => a b _ e
theorem Ext.tups (a : Ext h H H') (hh : ∀ xs, H h ≠ some (.tup xs)) : Tups H H' := fun b xs e => a b _ e fun z => hh xs (z ▸ e)
theorem Tups.refl : Tups H H := fun _ _ e => e
theorem Tups.trans (a : Tups H H1) (b : Tups H1 H2) : Tups H H2 := fun c xs e => b c xs (a c xs e)
end
theorem sz {n : Nat} (h : n ≤ 100000) : n ≤ sizeLine := Nat.le_trans h (by decide)
theorem szlt {n : Nat} (h : n < 100000) : n < sizeLine := Nat.lt_of_lt_of_le h (by decide)
end K34

set_option Elab.async false
set_option linter.all false
set_option maxRecDepth 100000
set_option maxHeartbeats 4000000
/-! K4: the data on the heap. -/
namespace K34
open PySem PySem.Spec PyProof.Rows L2
open He (ga ma)
/-! ### two lists, item by item -/
inductive All2 {α β : Type} (R : α → β → Prop) : List α → List β → Prop where
  | nil : All2 R [] []
  | cons {x : α} {y : β} {xs : List α} {ys : List β} : R x y → All2 R xs ys → All2 R (x :: xs) (y :: ys)
namespace All2
variable {α β : Type} {R S : α → β → Prop} {xs xs' : List α} {ys ys' : List β}
theorem len (h : All2 R xs ys) : xs.length = ys.length := by
  induction h with
  | nil => rfl
  | cons _ _ ih => rw [List.length_cons, List.length_cons, ih]
theorem mono (h : All2 R xs ys) (f : ∀ x y, R x y → S x y) : All2 S xs ys := by
  induction h with
  | nil => exact .nil
  | cons a _ ih => exact .cons (f _ _ a) ih
theorem mono_mem (h : All2 R xs ys) : (∀ x y, y ∈ ys → R x y → S x y) → All2 S xs ys := by
  induction h with
  | nil => exact fun _ => .nil
  | cons a _ ih => exact fun f => .cons (f _ _ List.mem_cons_self a) (ih fun x y m r => f x y (List.mem_cons_of_mem _ m) r)
theorem get (h : All2 R xs ys) : ∀ {i : Nat} {y : β}, ys[i]? = some y → ∃ x, xs[i]? = some x ∧ R x y := by
  induction h with
  | nil => intro i y e; simp at e
  | cons a _ ih =>
    intro i y e
    cases i with
    | zero => simp at e; subst e; exact ⟨_, rfl, a⟩
    | succ i => exact ih (by simpa using e)
theorem get' (h : All2 R xs ys) : ∀ {i : Nat} {x : α}, xs[i]? = some x → ∃ y, ys[i]? = some y ∧ R x y := by
  induction h with
  | nil => intro i y e; simp at e
  | cons a _ ih =>
    intro i y e
    cases i with
    | zero => simp at e; subst e; exact ⟨_, rfl, a⟩
    | succ i => exact ih (by simpa using e)
theorem append (h : All2 R xs ys) (h' : All2 R xs' ys') : All2 R (xs ++ xs') (ys ++ ys') := by
  induction h with
  | nil => exact h'
  | cons a _ ih => exact .cons a ih
theorem snoc {x : α} {y : β} (h : All2 R xs ys) (a : R x y) : All2 R (xs ++ [x]) (ys ++ [y]) := h.append (.cons a .nil)
theorem set (h : All2 R xs ys) {x : α} {y : β} (r : R x y) : ∀ i, All2 R (xs.set i x) (ys.set i y) := by
  induction h with
  | nil => exact fun _ => .nil
  | cons a b ih =>
    intro i
    cases i with
    | zero => exact .cons r b
    | succ i => exact .cons a (ih i)
theorem dropLast (h : All2 R xs ys) : All2 R xs.dropLast ys.dropLast := by
  induction h with
  | nil => exact .nil
  | @cons x y xs ys a b ih =>
    cases b with
    | nil => exact .nil
    | cons a2 b2 => exact .cons a ih
theorem mem' (h : All2 R xs ys) {x : α} (m : x ∈ xs) : ∃ y, y ∈ ys ∧ R x y := by
  obtain ⟨i, hi, e⟩ := List.mem_iff_getElem.mp m
  obtain ⟨y, e2, r⟩ := h.get' (i := i) (x := x) (by rw [List.getElem?_eq_getElem hi, e])
  exact ⟨y, List.mem_of_getElem? e2, r⟩
theorem map_left {γ : Type} {f : γ → α} {zs : List γ} (h : All2 (fun z y => R (f z) y) zs ys) : All2 R (zs.map f) ys := by
  induction h with
  | nil => exact .nil
  | cons a _ ih => exact .cons a ih
end All2

/-! ### what is kept of tuples and instances -/
structure Kp (H H' : Hp) : Prop where
  t : Tups H H'
  i : ∀ b C dx fs, H b = some (.ins C dx fs) → H' b = some (.ins C dx fs)
section
variable {H H1 H2 H' : Hp} {h p : Addr} {o u : HO}
theorem Kp.refl : Kp H H := ⟨.refl, fun _ _ _ _ e => e⟩
theorem Kp.trans (a : Kp H H1) (b : Kp H1 H2) : Kp H H2 := ⟨a.t.trans b.t, fun c C dx fs e => b.i c C dx fs (a.i c C dx fs e)⟩
theorem Same.kp (a : Same H H') : Kp H H' := ⟨fun b xs e => a b _ e, fun b C dx fs e => a b _ e⟩
theorem Ext.kpD {kvs : List (Key × V)} (a : Ext h H H') (hh : H h = some (.dK kvs)) : Kp H H' :=
  ⟨fun b xs e => a b _ e fun z => (by rw [z, hh] at e; cases e), fun b C dx fs e => a b _ e fun z => (by rw [z, hh] at e; cases e)⟩
theorem Ext.kpL {xs : List V} (a : Ext h H H') (hh : H h = some (.lst xs)) : Kp H H' :=
  ⟨fun b xs e => a b _ e fun z => (by rw [z, hh] at e; cases e), fun b C dx fs e => a b _ e fun z => (by rw [z, hh] at e; cases e)⟩
theorem Kp.new (a : Kp H H') (hp : H' p = none) : Kp H (L2.upd H' p o) := a.trans (Same.kp (Same.new hp))
end

/-! ### sums, tests, statements -/
def wdS : Wd → Str
  | .width => "width"
  | .height => "height"
  | .left => "left"
  | .top => "top"
def tsS (less : Bool) : Str := if less then "less" else "same"
/-- a tuple of these ints -/
def SmA (H : Hp) (v : V) (s : List Int) : Prop := ∃ a, v = .ref a ∧ H a = some (.tup (s.map V.int))
def TsA (H : Hp) (v : V) (t : Tst) : Prop := ∃ a p q, v = .ref a ∧ H a = some (.tup [.str (tsS t.less), p, q]) ∧ SmA H p t.a ∧ SmA H q t.b
mutual
def StA (H : Hp) : Stm → V → Prop
  | .set c s, v => ∃ a p, v = .ref a ∧ H a = some (.tup [.str "set", .int (c : Int), p]) ∧ SmA H p s
  | .put b x y, v => ∃ a p q r, v = .ref a ∧ H a = some (.tup [.str "put", p, q, r]) ∧ SmA H p b ∧ SmA H q x ∧ SmA H r y
  | .ask c w s, v => ∃ a p, v = .ref a ∧ H a = some (.tup [.str "ask", .int (c : Int), .str (wdS w), p]) ∧ SmA H p s
  | .call r, v => ∃ a, v = .ref a ∧ H a = some (.tup [.str "call", .int (r : Int)])
  | .ite t y n, v => ∃ a p q r, v = .ref a ∧ H a = some (.tup [.str "if", p, .ref q, .ref r]) ∧ TsA H p t ∧ (∃ vs, H q = some (.tup vs) ∧ BdsA H y vs) ∧ ∃ vs, H r = some (.tup vs) ∧ BdsA H n vs
  | .whl t b, v => ∃ a p q, v = .ref a ∧ H a = some (.tup [.str "while", p, .ref q]) ∧ TsA H p t ∧ ∃ vs, H q = some (.tup vs) ∧ BdsA H b vs
def BdsA (H : Hp) : List Stm → List V → Prop
  | [], vs => vs = []
  | s :: r, vs => ∃ v ws, vs = v :: ws ∧ StA H s v ∧ BdsA H r ws
end
/-- a body stands at q -/
def BdA (H : Hp) (q : Addr) (b : List Stm) : Prop := ∃ vs, H q = some (.tup vs) ∧ BdsA H b vs
def wordS : Stm → Str
  | .set _ _ => "set"
  | .put _ _ _ => "put"
  | .ask _ _ _ => "ask"
  | .call _ => "call"
  | .ite _ _ _ => "if"
  | .whl _ _ => "while"
theorem SmA.mono {H H' : Hp} {v : V} {s : List Int} (h : SmA H v s) (k : Tups H H') : SmA H' v s := let ⟨a, e, q⟩ := h; ⟨a, e, k _ _ q⟩
theorem TsA.mono {H H' : Hp} {v : V} {t : Tst} (h : TsA H v t) (k : Tups H H') : TsA H' v t := let ⟨a, p, q, e, e2, x, y⟩ := h; ⟨a, p, q, e, k _ _ e2, x.mono k, y.mono k⟩
mutual
theorem StA.mono {H H' : Hp} (k : Tups H H') : ∀ (s : Stm) (v : V), StA H s v → StA H' s v
  | .set c s, v, h => by
    rw [StA] at h ⊢
    obtain ⟨a, p, e, e2, x⟩ := h
    exact ⟨a, p, e, k _ _ e2, x.mono k⟩
  | .put b x y, v, h => by
    rw [StA] at h ⊢
    obtain ⟨a, p, q, r, e, e2, x, y, z⟩ := h
    exact ⟨a, p, q, r, e, k _ _ e2, x.mono k, y.mono k, z.mono k⟩
  | .ask c w s, v, h => by
    rw [StA] at h ⊢
    obtain ⟨a, p, e, e2, x⟩ := h
    exact ⟨a, p, e, k _ _ e2, x.mono k⟩
  | .call r, v, h => by
    rw [StA] at h ⊢
    obtain ⟨a, e, e2⟩ := h
    exact ⟨a, e, k _ _ e2⟩
  | .ite t y n, v, h => by
    rw [StA] at h ⊢
    obtain ⟨a, p, q, r, e, e2, x, ⟨vs, e3, b1⟩, ⟨ws, e4, b2⟩⟩ := h
    exact ⟨a, p, q, r, e, k _ _ e2, x.mono k, ⟨vs, k _ _ e3, BdsA.mono k y vs b1⟩, ⟨ws, k _ _ e4, BdsA.mono k n ws b2⟩⟩
  | .whl t b, v, h => by
    rw [StA] at h ⊢
    obtain ⟨a, p, q, e, e2, x, vs, e3, b1⟩ := h
    exact ⟨a, p, q, e, k _ _ e2, x.mono k, vs, k _ _ e3, BdsA.mono k b vs b1⟩
theorem BdsA.mono {H H' : Hp} (k : Tups H H') : ∀ (b : List Stm) (vs : List V), BdsA H b vs → BdsA H' b vs
  | [], vs, h => by
    rw [BdsA] at h ⊢
    exact h
  | s :: r, vs, h => by
    rw [BdsA] at h ⊢
    obtain ⟨v, ws, e, x, y⟩ := h
    exact ⟨v, ws, e, StA.mono k s v x, BdsA.mono k r ws y⟩
end
theorem BdA.mono {H H' : Hp} {q : Addr} {b : List Stm} (h : BdA H q b) (k : Tups H H') : BdA H' q b := let ⟨vs, e, x⟩ := h; ⟨vs, k _ _ e, BdsA.mono k b vs x⟩
theorem bdsA_iff {H : Hp} : ∀ {b : List Stm} {vs : List V}, BdsA H b vs ↔ All2 (fun v s => StA H s v) vs b
  | [], vs => by
    rw [BdsA]
    exact ⟨fun e => by rw [e]; exact .nil, fun h => by cases h; rfl⟩
  | s :: r, vs => by
    rw [BdsA]
    constructor
    · rintro ⟨v, ws, e, x, y⟩
      rw [e]
      exact .cons x (bdsA_iff.mp y)
    · intro h
      cases h with
      | cons x y => exact ⟨_, _, rfl, x, bdsA_iff.mpr y⟩
theorem BdA.all {H : Hp} {q : Addr} {b : List Stm} (h : BdA H q b) : ∃ vs, H q = some (.tup vs) ∧ All2 (fun v s => StA H s v) vs b := let ⟨vs, e, x⟩ := h; ⟨vs, e, bdsA_iff.mp x⟩
theorem BdA.of {H : Hp} {q : Addr} {b : List Stm} {vs : List V} (e : H q = some (.tup vs)) (x : All2 (fun v s => StA H s v) vs b) : BdA H q b := ⟨vs, e, bdsA_iff.mpr x⟩
/-- a statement is a tuple, its word first -/
theorem StA.head {H : Hp} {s : Stm} {v : V} (h : StA H s v) : ∃ a xs, v = .ref a ∧ H a = some (.tup (.str (wordS s) :: xs)) := by
  cases s <;> rw [StA] at h
  · obtain ⟨a, p, e, e2, _⟩ := h; exact ⟨a, _, e, e2⟩
  · obtain ⟨a, p, q, r, e, e2, _⟩ := h; exact ⟨a, _, e, e2⟩
  · obtain ⟨a, p, e, e2, _⟩ := h; exact ⟨a, _, e, e2⟩
  · obtain ⟨a, e, e2⟩ := h; exact ⟨a, _, e, e2⟩
  · obtain ⟨a, p, q, r, e, e2, _⟩ := h; exact ⟨a, _, e, e2⟩
  · obtain ⟨a, p, q, e, e2, _⟩ := h; exact ⟨a, _, e, e2⟩

/-! ### the standing -/
def LevA (H : Hp) (v : V) (l : Lev) : Prop := ∃ a bo, v = .ref a ∧ H a = some (.tup [.ref bo, .int (l.2 : Int)]) ∧ BdA H bo l.1
def LvsA (H : Hp) (p : Addr) (lv : List Lev) : Prop := ∃ vs : List V, H p = some (.tup vs.reverse) ∧ All2 (LevA H) vs lv
def RouA (H : Hp) (v : V) (r : Rou) : Prop := ∃ a p, v = .ref a ∧ H a = some (.tup [.int (r.1 : Int), .ref p]) ∧ LvsA H p r.2
def OpnA (H : Hp) (p : Addr) (o : Opn) : Prop := ∃ vs : List V, H p = some (.tup vs.reverse) ∧ All2 (RouA H) vs o
def PlA (H : Hp) (v : V) : Option (Int × Int) → Prop
  | none => v = .non
  | some z => ∃ a, v = .ref a ∧ H a = some (.tup [.int z.1, .int z.2])
def PosA (H : Hp) (v : V) (pos : List (Option (Int × Int))) : Prop := ∃ a vs, v = .ref a ∧ H a = some (.tup vs) ∧ All2 (PlA H) vs pos
def fStn (o h p : V) : List (Str × V) := [("open_routines", o), ("held", h), ("put", p)]
def StnA (K : PySem.W.Frag) (H : Hp) (v : V) (st : PSt) : Prop := ∃ a dx po vh vp, v = .ref a ∧ H a = some (.ins (ga K "Standing") dx (fStn (.ref po) vh vp)) ∧ OpnA H po st.op ∧ SmA H vh st.held ∧ PosA H vp st.pos
theorem LevA.mono {H H' : Hp} {v : V} {l : Lev} (h : LevA H v l) (k : Tups H H') : LevA H' v l := let ⟨a, b, e, e2, x⟩ := h; ⟨a, b, e, k _ _ e2, x.mono k⟩
theorem LvsA.mono {H H' : Hp} {p : Addr} {l : List Lev} (h : LvsA H p l) (k : Tups H H') : LvsA H' p l := let ⟨vs, e, x⟩ := h; ⟨vs, k _ _ e, x.mono fun _ _ r => r.mono k⟩
theorem RouA.mono {H H' : Hp} {v : V} {r : Rou} (h : RouA H v r) (k : Tups H H') : RouA H' v r := let ⟨a, p, e, e2, x⟩ := h; ⟨a, p, e, k _ _ e2, x.mono k⟩
theorem OpnA.mono {H H' : Hp} {p : Addr} {o : Opn} (h : OpnA H p o) (k : Tups H H') : OpnA H' p o := let ⟨vs, e, x⟩ := h; ⟨vs, k _ _ e, x.mono fun _ _ r => r.mono k⟩
theorem PlA.mono {H H' : Hp} {v : V} {o : Option (Int × Int)} (h : PlA H v o) (k : Tups H H') : PlA H' v o := by
  cases o with
  | none => exact h
  | some z =>
    obtain ⟨a, e, e2⟩ := h
    exact ⟨a, e, k _ _ e2⟩
theorem PosA.mono {H H' : Hp} {v : V} {l : List (Option (Int × Int))} (h : PosA H v l) (k : Tups H H') : PosA H' v l := let ⟨a, vs, e, e2, x⟩ := h; ⟨a, vs, e, k _ _ e2, x.mono fun _ _ r => r.mono k⟩
theorem StnA.mono {K : PySem.W.Frag} {H H' : Hp} {v : V} {st : PSt} (h : StnA K H v st) (k : Kp H H') : StnA K H' v st :=
  let ⟨a, dx, po, vh, vp, e, e2, x, y, z⟩ := h; ⟨a, dx, po, vh, vp, e, k.i _ _ _ _ e2, x.mono k.t, y.mono k.t, z.mono k.t⟩
theorem fStn_o {o h p : V} : (fStn o h p).lookup ("open_routines" : Str) = some o := by simp [fStn, List.lookup]
theorem fStn_h {o h p : V} : (fStn o h p).lookup ("held" : Str) = some h := by
  have e : (("held" : Str) == ("open_routines" : Str)) = false := by decide +kernel
  simp [fStn, List.lookup, e]
theorem fStn_p {o h p : V} : (fStn o h p).lookup ("put" : Str) = some p := by
  have e : (("put" : Str) == ("open_routines" : Str)) = false := by decide +kernel
  have e2 : (("put" : Str) == ("held" : Str)) = false := by decide +kernel
  simp [fStn, List.lookup, e, e2]
theorem fStn_put {o h p : V} : putF "put" p (putF "held" h (putF "open_routines" o [])) = fStn o h p := by
  have e : ¬ (("open_routines" : Str) = "held") := by decide +kernel
  have e2 : ¬ (("open_routines" : Str) = "put") := by decide +kernel
  have e3 : ¬ (("held" : Str) = "put") := by decide +kernel
  simp only [putF, fStn, if_neg e, if_neg e2, if_neg e3]

/-! ### the scene, the boxes -/
def RtsA (H : Hp) (p : Addr) (rs : List (List Stm)) : Prop := ∃ vs, H p = some (.tup vs) ∧ All2 (fun v b => ∃ q, v = .ref q ∧ BdA H q b) vs rs
def SizA (H : Hp) (p : Addr) (zs : List (Int × Int)) : Prop := ∃ vs, H p = some (.tup vs) ∧ All2 (fun v (z : Int × Int) => ∃ a, v = .ref a ∧ H a = some (.tup [.int z.1, .int z.2])) vs zs
def fScn (c r : V) : List (Str × V) := [("cells", c), ("routines", r)]
def fBox (s m : V) : List (Str × V) := [("sizes", s), ("many", m)]
def ScnA (K : PySem.W.Frag) (H : Hp) (a : Addr) (cells : Nat) (rs : List (List Stm)) : Prop := ∃ dx p, H a = some (.ins (ga K "Scene") dx (fScn (.int cells) (.ref p))) ∧ RtsA H p rs
def BxsA (K : PySem.W.Frag) (H : Hp) (a : Addr) (zs : List (Int × Int)) : Prop := ∃ dx p, H a = some (.ins (ga K "Boxes") dx (fBox (.ref p) (.int zs.length))) ∧ SizA H p zs
theorem RtsA.mono {H H' : Hp} {p : Addr} {rs : List (List Stm)} (h : RtsA H p rs) (k : Tups H H') : RtsA H' p rs := let ⟨vs, e, x⟩ := h; ⟨vs, k _ _ e, x.mono fun _ _ ⟨q, e, r⟩ => ⟨q, e, r.mono k⟩⟩
theorem SizA.mono {H H' : Hp} {p : Addr} {zs : List (Int × Int)} (h : SizA H p zs) (k : Tups H H') : SizA H' p zs := let ⟨vs, e, x⟩ := h; ⟨vs, k _ _ e, x.mono fun _ _ ⟨q, e, r⟩ => ⟨q, e, k _ _ r⟩⟩
theorem ScnA.mono {K : PySem.W.Frag} {H H' : Hp} {a : Addr} {c : Nat} {rs : List (List Stm)} (h : ScnA K H a c rs) (k : Kp H H') : ScnA K H' a c rs := let ⟨dx, p, e, x⟩ := h; ⟨dx, p, k.i _ _ _ _ e, x.mono k.t⟩
theorem BxsA.mono {K : PySem.W.Frag} {H H' : Hp} {a : Addr} {zs : List (Int × Int)} (h : BxsA K H a zs) (k : Kp H H') : BxsA K H' a zs := let ⟨dx, p, e, x⟩ := h; ⟨dx, p, k.i _ _ _ _ e, x.mono k.t⟩
theorem fScn_c {c r : V} : (fScn c r).lookup ("cells" : Str) = some c := by simp [fScn, List.lookup]
theorem fScn_r {c r : V} : (fScn c r).lookup ("routines" : Str) = some r := by
  have e : (("routines" : Str) == ("cells" : Str)) = false := by decide +kernel
  simp [fScn, List.lookup, e]
theorem fScn_put {c r : V} : putF "routines" r (putF "cells" c []) = fScn c r := by
  have e : ¬ (("cells" : Str) = "routines") := by decide +kernel
  simp only [putF, fScn, if_neg e]
theorem fBox_s {c r : V} : (fBox c r).lookup ("sizes" : Str) = some c := by simp [fBox, List.lookup]
theorem fBox_m {c r : V} : (fBox c r).lookup ("many" : Str) = some r := by
  have e : (("many" : Str) == ("sizes" : Str)) = false := by decide +kernel
  simp [fBox, List.lookup, e]
theorem fBox_put {c r : V} : putF "many" r (putF "sizes" c []) = fBox c r := by
  have e : ¬ (("sizes" : Str) = "many") := by decide +kernel
  simp only [putF, fBox, if_neg e]

/-! ### the law's code and stack -/
def ItmA (H : Hp) (v : V) : Itm → Prop
  | .go p => ∃ a, v = .ref a ∧ H a = some (.tup [.str "go", .int (p : Int)])
  | .test t p => ∃ a q, v = .ref a ∧ H a = some (.tup [.str "test", q, .int (p : Int)]) ∧ TsA H q t
  | .do_ s => ∃ a q, v = .ref a ∧ H a = some (.tup [.str "do", q]) ∧ StA H s q
  | .end_ => ∃ a, v = .ref a ∧ H a = some (.tup [.str "end"])
theorem ItmA.mono {H H' : Hp} {v : V} {i : Itm} (h : ItmA H v i) (k : Tups H H') : ItmA H' v i := by
  cases i with
  | go p => obtain ⟨a, e, e2⟩ := h; exact ⟨a, e, k _ _ e2⟩
  | test t p => obtain ⟨a, q, e, e2, x⟩ := h; exact ⟨a, q, e, k _ _ e2, x.mono k⟩
  | do_ s => obtain ⟨a, q, e, e2, x⟩ := h; exact ⟨a, q, e, k _ _ e2, StA.mono k s q x⟩
  | end_ => obtain ⟨a, e, e2⟩ := h; exact ⟨a, e, k _ _ e2⟩
def CdA (H : Hp) (p : Addr) (c : List Itm) : Prop := ∃ vs, H p = some (.lst vs) ∧ All2 (ItmA H) vs c
def CdsA (H : Hp) (a : Addr) (rs : List (List Stm)) : Prop := ∃ vs, H a = some (.lst vs) ∧ All2 (fun v b => ∃ p, v = .ref p ∧ CdA H p (codeB b)) vs rs
theorem CdA.same {H H' : Hp} {p : Addr} {c : List Itm} (h : CdA H p c) (k : Same H H') : CdA H' p c := let ⟨vs, e, x⟩ := h; ⟨vs, k _ _ e, x.mono fun _ _ r => r.mono (Same.tups k)⟩
theorem CdsA.same {H H' : Hp} {p : Addr} {rs : List (List Stm)} (h : CdsA H p rs) (k : Same H H') : CdsA H' p rs := let ⟨vs, e, x⟩ := h; ⟨vs, k _ _ e, x.mono fun _ _ ⟨q, e, r⟩ => ⟨q, e, CdA.same r k⟩⟩
theorem Ext.lstD {h a : Addr} {kvs : List (Key × V)} {xs : List V} {H H' : Hp} (k : Ext h H H') (hh : H h = some (.dK kvs)) (e : H a = some (.lst xs)) : H' a = some (.lst xs) := k _ _ e fun z => by rw [z, hh] at e; cases e
theorem CdA.ext {h : Addr} {kvs : List (Key × V)} {H H' : Hp} {p : Addr} {c : List Itm} (x : CdA H p c) (k : Ext h H H') (hh : H h = some (.dK kvs)) : CdA H' p c :=
  let ⟨vs, e, x⟩ := x; ⟨vs, k.lstD hh e, x.mono fun _ _ r => r.mono (k.kpD hh).t⟩
theorem CdsA.ext {h : Addr} {kvs : List (Key × V)} {H H' : Hp} {p : Addr} {rs : List (List Stm)} (x : CdsA H p rs) (k : Ext h H H') (hh : H h = some (.dK kvs)) : CdsA H' p rs :=
  let ⟨vs, e, x⟩ := x; ⟨vs, k.lstD hh e, x.mono fun _ _ ⟨q, e, r⟩ => ⟨q, e, r.ext k hh⟩⟩
def StkA (H : Hp) (p : Addr) (l : List (Nat × Nat)) : Prop := ∃ vs : List V, H p = some (.tup vs.reverse) ∧ All2 (fun v (x : Nat × Nat) => ∃ a, v = .ref a ∧ H a = some (.tup [.int (x.1 : Int), .int (x.2 : Int)])) vs l
theorem StkA.mono {H H' : Hp} {p : Addr} {l : List (Nat × Nat)} (h : StkA H p l) (k : Tups H H') : StkA H' p l := let ⟨vs, e, x⟩ := h; ⟨vs, k _ _ e, x.mono fun _ _ ⟨q, e, r⟩ => ⟨q, e, k _ _ r⟩⟩
/-- a state of the law's machine that tells what st tells -/
def LwA (rs : List (List Stm)) (H : Hp) (v : V) (st : PSt) : Prop := ∃ a p vh vp l, v = .ref a ∧ H a = some (.tup [.ref p, vh, vp]) ∧ StkA H p l ∧ Sim rs st.op l ∧ SmA H vh st.held ∧ PosA H vp st.pos
theorem LwA.mono {rs : List (List Stm)} {H H' : Hp} {v : V} {st : PSt} (h : LwA rs H v st) (k : Tups H H') : LwA rs H' v st :=
  let ⟨a, p, vh, vp, l, e, e2, x, s, y, z⟩ := h; ⟨a, p, vh, vp, l, e, k _ _ e2, x.mono k, s, y.mono k, z.mono k⟩
/-- the trail: a list of such states -/
def TrlA (rs : List (List Stm)) (H : Hp) (t : Addr) (ps : List PSt) : Prop := ∃ vs, H t = some (.lst vs) ∧ All2 (LwA rs H) vs ps
/-- a standing as it comes about -/
structure Good (rs : List (List Stm)) (cells many : Nat) (st : PSt) : Prop where
  set_ : Set_ st.op
  few : st.op.length ≤ 20
  held : st.held.length = cells
  pos : st.pos.length = many
  sim : ∃ l, Sim rs st.op l
/-! ### the runner -/
def fRun (s b p : V) : List (Str × V) := [("scene", s), ("sized", b), ("past", p)]
theorem fRun_s {s b p : V} : (fRun s b p).lookup ("scene" : Str) = some s := by simp [fRun, List.lookup]
theorem fRun_b {s b p : V} : (fRun s b p).lookup ("sized" : Str) = some b := by
  have e : (("sized" : Str) == ("scene" : Str)) = false := by decide +kernel
  simp [fRun, List.lookup, e]
theorem fRun_p {s b p : V} : (fRun s b p).lookup ("past" : Str) = some p := by
  have e : (("past" : Str) == ("scene" : Str)) = false := by decide +kernel
  have e2 : (("past" : Str) == ("sized" : Str)) = false := by decide +kernel
  simp [fRun, List.lookup, e, e2]
theorem fRun_put {s b p : V} : putF "past" p (putF "sized" b (putF "scene" s [])) = fRun s b p := by
  have e : ¬ (("scene" : Str) = "sized") := by decide +kernel
  have e2 : ¬ (("scene" : Str) = "past") := by decide +kernel
  have e3 : ¬ (("sized" : Str) = "past") := by decide +kernel
  simp only [putF, fRun, if_neg e, if_neg e2, if_neg e3]
theorem fRun_past {s b p q : V} : putF "past" q (fRun s b p) = fRun s b q := by
  have e2 : ¬ (("scene" : Str) = "past") := by decide +kernel
  have e3 : ¬ (("sized" : Str) = "past") := by decide +kernel
  simp only [putF, fRun, if_neg e2, if_neg e3, if_true]
theorem fRun_no {s b p : V} {m : Str} (h1 : (m == ("scene" : Str)) = false) (h2 : (m == ("sized" : Str)) = false) (h3 : (m == ("past" : Str)) = false) : (fRun s b p).lookup m = none := by simp [fRun, List.lookup, h1, h2, h3]
/-- a runner at r: of the scene at sc, the boxes at bx, its list of standings at pl -/
structure RunA (K : PySem.W.Frag) (H : Hp) (r pl sc bx : Addr) (cells : Nat) (rs : List (List Stm)) (zs : List (Int × Int)) (ps : List PSt) : Prop where
  ob : ∃ dx, H r = some (.ins (ga K "SceneRunner") dx (fRun (.ref sc) (.ref bx) (.ref pl)))
  pl : ∃ vs, H pl = some (.lst vs) ∧ All2 (StnA K H) vs ps
  sc : ScnA K H sc cells rs
  bx : BxsA K H bx zs
  good : ∀ st ∈ ps, Good rs cells zs.length st
  ne : ps ≠ []
end K34

set_option Elab.async false
set_option linter.all false
set_option maxRecDepth 100000
set_option maxHeartbeats 4000000
/-! D1: checks, boxes, contents. -/
namespace K34
open PySem PySem.Spec PyProof.Rows L2
open He (ga ma)
/-! ### promises -/
def isI : V → Bool
  | .int _ => true
  | _ => false
def inW (lo hi : Int) : V → Bool
  | .int i => decide (lo ≤ i ∧ i ≤ hi)
  | _ => false
theorem KTy.isI {H : Hp} {v : V} {T : String} (h : KTy H v T) : (T == "int") = isI v := by cases h <;> first | rfl | decide
theorem isI_ex {v : V} (h : isI v = true) : ∃ i, v = .int i := by
  cases v <;> first | exact ⟨_, rfl⟩ | cases h
def spIsInt : Sp := fun vs H Q _ => ∃ v T, vs = [v] ∧ KTy H v T ∧ Q (.bl (isI v)) H
def spWithin : Sp := fun vs H Q _ => ∃ v lo hi T, vs = [v, .int lo, .int hi] ∧ KTy H v T ∧ Q (.bl (inW lo hi v)) H
def spBelow : Sp := fun vs H Q _ => ∃ i many, vs = [.int i, .int many] ∧ Q (.bl (decide (0 ≤ i ∧ i < many))) H
def spPair : Sp := fun vs H Q _ => ∃ a x y, vs = [.ref a] ∧ H a = some (.tup [x, y]) ∧ Q (.bl true) H
def isTupN (H : Hp) (lo hi : Int) (v : V) (b : Bool) : Prop := (∃ a xs, v = .ref a ∧ H a = some (.tup xs) ∧ b = decide (lo ≤ (xs.length : Int) ∧ (xs.length : Int) ≤ hi)) ∨ (∃ T, KTy H v T ∧ T ≠ "tuple" ∧ b = false)
def spSized : Sp := fun vs H Q _ => ∃ v lo hi b, vs = [v, .int lo, .int hi] ∧ isTupN H lo hi v b ∧ Q (.bl b) H
/-- what are_integers answers -/
def Cont (H : Hp) (n : Int) (v : V) (b : Bool) : Prop := (∃ a xs, v = .ref a ∧ H a = some (.tup xs) ∧ (∀ x ∈ xs, ∃ T, KTy H x T) ∧ xs.length ≤ 100 ∧ b = (decide ((xs.length : Int) = n) && xs.all isI)) ∨ (∃ T, KTy H v T ∧ T ≠ "tuple" ∧ b = false)
def spAreI : Sp := fun vs H Q _ => ∃ v n b, vs = [v, .int n] ∧ Cont H n v b ∧ ∀ H', Same H H' → Q (.bl b) H'
def spCheck (K : PySem.W.Frag) : Sp := fun vs H Q E => ∃ v lo hi T, vs = [v, .int lo, .int hi] ∧ KTy H v T ∧ (inW lo hi v = true → Q .non H) ∧ (inW lo hi v = false → E (.ref (ga K "NoNumber")) none H)
def spSize : Sp := fun vs H Q _ => ∃ a x y, vs = [.ref a] ∧ H a = some (.tup [.int x, .int y]) ∧ 1 ≤ x ∧ x ≤ 1000 ∧ 1 ≤ y ∧ y ≤ 1000 ∧ Q (.bl true) H
def spBoxes (K : PySem.W.Frag) : Sp := fun vs H Q _ => ∃ o p dx zs, vs = [.ref o, .ref p] ∧ H o = some (.ins (ga K "Boxes") dx []) ∧ SizA H p zs ∧ zs ≠ [] ∧ zs.length ≤ 4 ∧ (∀ z ∈ zs, 1 ≤ z.1 ∧ z.1 ≤ 1000 ∧ 1 ≤ z.2 ∧ z.2 ≤ 1000) ∧
  ∀ H1, Same H H1 → Q .non (upd (upd H1 o (.ins (ga K "Boxes") dx [("sizes", .ref p)])) o (.ins (ga K "Boxes") dx (fBox (.ref p) (.int zs.length))))
def spCont (K : PySem.W.Frag) : Sp := fun vs H Q _ => ∃ s c r v b, vs = [.ref s, v] ∧ (∃ dx p, H s = some (.ins (ga K "Scene") dx (fScn (.int c) (.ref p)))) ∧ r = c ∧ Cont H c v b ∧ ∀ H', Same H H' → Q (.bl b) H'
section
variable {P : Program} {w : World} {K : PySem.W.Frag} {mg : Str → Option Value} {base : Heap}
theorem ok_is_integer (T : Facts w K mg) : OkF P w K mg base CX0 1 "is_integer" ["thing"] spIsInt := by
  refine T.d_is_integer.ok sc_is_integer bb_is_integer (fun vs H Q E h => ?_) (fun f cdv A outer s H vs Q E hr h => ?_)
  · obtain ⟨v, T, rfl, _⟩ := h; rfl
  obtain ⟨v, T', rfl, hk, q⟩ := h
  refine ⟨_, (pss_one (ps_ret (pe_and (pe_callB call_isi (by rfl) T.b_isinstance bv_isinstance (pa_cons (pv 0) (pa_cons (pe_bty T.b_int bv_int) pa_nil))) (pe_one (pe_not (pe_callB call_isi (by rfl) T.b_isinstance bv_isinstance (pa_cons (pv 0) (pa_cons (pe_bty T.b_bool bv_bool) pa_nil)))))))), ?_⟩
  refine ⟨_, rfl, _, _, _, _, _, rfl, .ty _, hk.tyX, hk.kint, ?_⟩
  refine ⟨_, rfl, ?_⟩
  refine ite2 (fun c => ?_) (fun c => ?_)
  · refine ⟨_, rfl, _, _, _, _, _, rfl, .ty _, hk.tyX, hk.kbool, _, rfl, ?_⟩
    cases hk <;> first | exact q | exact absurd c (by decide)
  · cases hk <;> first | exact q | (exact absurd rfl c)
theorem ok_is_within (T : Facts w K mg) : OkF P w K mg base CX0 2 "is_within" ["thing", "least", "most"] spWithin := by
  have G_is_integer := ok_is_integer (P := P) (base := base) T
  refine T.d_is_within.ok sc_is_within bb_is_within (fun vs H Q E h => ?_) (fun f cdv A outer s H vs Q E hr h => ?_)
  · obtain ⟨v, lo, hi, T, rfl, _⟩ := h; rfl
  obtain ⟨v, lo, hi, T', rfl, hk, q⟩ := h
  refine ⟨_, (pss_one (ps_ret (pe_and (pe_cal G_is_integer (hr.mono (by first | decide | omega)) (pa_cons (pv 0) pa_nil)) (pe_one (pe_chain op_le op_le (pv 1) (pv 0) (pv 2)))))), ?_⟩
  refine ⟨_, rfl, _, _, rfl, hk, _, rfl, ?_⟩
  refine ite2 (fun c => ?_) (fun c => ?_)
  · obtain ⟨i, rfl⟩ := isI_ex c
    refine ⟨_, rfl, _, rfl, _, _, rfl, rfl, _, rfl, ite2 (fun c1 => ⟨_, rfl, _, _, rfl, rfl, ?_⟩) (fun c1 => ?_)⟩
    · have c1 := of_decide_eq_true c1
      have e : inW lo hi (.int i) = decide (i ≤ hi) := by simp [inW, c1]
      rw [e] at q; exact q
    · have c1 := of_decide_eq_false (Bool.eq_false_iff.mpr c1)
      have e : inW lo hi (.int i) = false := by simp [inW, c1]
      rw [e] at q; exact q
  · have e : inW lo hi v = false := by cases v <;> first | rfl | exact absurd rfl c
    rw [e] at q; exact q
theorem ok_is_below (T : Facts w K mg) : OkF P w K mg base CX0 3 "is_below" ["thing", "many"] spBelow := by
  have G_is_within := ok_is_within (P := P) (base := base) T
  refine T.d_is_below.ok sc_is_below bb_is_below (fun vs H Q E h => ?_) (fun f cdv A outer s H vs Q E hr h => ?_)
  · obtain ⟨v, lo, rfl, _⟩ := h; rfl
  obtain ⟨i, many, rfl, q⟩ := h
  refine ⟨_, (pss_one (ps_ret (pe_cal G_is_within (hr.mono (by first | decide | omega)) (pa_cons (pv 0) (pa_cons pe_int (pa_cons (pe_op op_sub (pv 1) pe_int) pa_nil)))))), ?_⟩
  refine ⟨_, rfl, _, rfl, _, _, rfl, rfl, _, _, _, _, rfl, .int i, ?_⟩
  have e : inW 0 (many - 1) (.int i) = decide (0 ≤ i ∧ i < many) := by
    show decide _ = decide _
    exact decide_eq_decide.mpr (by omega)
  rw [e]; exact q
theorem ok_is_pair (T : Facts w K mg) : OkF P w K mg base CX0 1 "is_pair" ["thing"] spPair := by
  refine T.d_is_pair.ok sc_is_pair bb_is_pair (fun vs H Q E h => ?_) (fun f cdv A outer s H vs Q E hr h => ?_)
  · obtain ⟨v, _, _, rfl, _⟩ := h; rfl
  obtain ⟨a, x, y, rfl, ha, q⟩ := h
  refine ⟨_, (pss_one (ps_ret (pe_and (pe_callB call_isi (by rfl) T.b_isinstance bv_isinstance (pa_cons (pv 0) (pa_cons (pe_bty T.b_tuple bv_tuple) pa_nil))) (pe_one (pe_cmpR op_eq (pe_callB call_len_seq (by rfl) T.b_len PySem.boot_len (pa_cons (pv 0) pa_nil)) pe_int (nomark _)))))), ?_⟩
  have hk : KTy H (.ref a) "tuple" := .tup ha
  refine ⟨_, rfl, _, _, _, _, _, rfl, .ty _, hk.tyX, hk.ktup, _, rfl, iteT ?_⟩
  exact ⟨_, rfl, a, _, rfl, .inr (SqT.of ha), rfl, q⟩
theorem ok_is_sized (T : Facts w K mg) : OkF P w K mg base CX0 1 "is_sized" ["thing", "least", "most"] spSized := by
  refine T.d_is_sized.ok sc_is_sized bb_is_sized (fun vs H Q E h => ?_) (fun f cdv A outer s H vs Q E hr h => ?_)
  · obtain ⟨v, lo, hi, b, rfl, _⟩ := h; rfl
  obtain ⟨v, lo, hi, b, rfl, hk, q⟩ := h
  refine ⟨_, (pss_one (ps_ret (pe_and (pe_callB call_isi (by rfl) T.b_isinstance bv_isinstance (pa_cons (pv 0) (pa_cons (pe_bty T.b_tuple bv_tuple) pa_nil))) (pe_one (pe_chain op_le op_le (pv 1) (pe_callB call_len_seq (by rfl) T.b_len PySem.boot_len (pa_cons (pv 0) pa_nil)) (pv 2)))))), ?_⟩
  rcases hk with ⟨a, xs, rfl, ha, rfl⟩ | ⟨T', hk, hn, rfl⟩
  · have hk : KTy H (.ref a) "tuple" := .tup ha
    refine ⟨_, rfl, _, _, _, _, _, rfl, .ty _, hk.tyX, hk.ktup, _, rfl, iteT ?_⟩
    refine ⟨_, rfl, _, rfl, a, _, rfl, .inr (SqT.of ha), _, _, rfl, rfl, _, rfl, ite2 (fun c => ⟨_, rfl, _, _, rfl, rfl, ?_⟩) (fun c => ?_)⟩
    · have c := of_decide_eq_true c
      have e : decide (lo ≤ (xs.length : Int) ∧ (xs.length : Int) ≤ hi) = decide ((xs.length : Int) ≤ hi) := by simp [c]
      rw [e] at q; exact q
    · have c := of_decide_eq_false (Bool.eq_false_iff.mpr c)
      have e : decide (lo ≤ (xs.length : Int) ∧ (xs.length : Int) ≤ hi) = false := by simp [c]
      rw [e] at q; exact q
  · have e : (T' == "tuple") = false := by simpa using hn
    refine ⟨_, rfl, _, _, _, _, _, rfl, .ty _, hk.tyX, hk.ktup, _, rfl, ?_⟩
    rw [e]
    exact iteF q
theorem ok_are_integers (T : Facts w K mg) : OkF P w K mg base CX0 2 "are_integers" ["thing", "many"] spAreI := by
  have G_is_integer := ok_is_integer (P := P) (base := base) T
  have G_is_sized := ok_is_sized (P := P) (base := base) T
  refine T.d_are_integers.ok sc_are_integers bb_are_integers (fun vs H Q E h => ?_) (fun f cdv A outer s H vs Q E hr h => ?_)
  · obtain ⟨v, n, b, rfl, _⟩ := h; rfl
  obtain ⟨v, n, b, rfl, hk, q⟩ := h
  refine ⟨_, (pss_one (ps_ret (pe_and (pe_cal G_is_sized (hr.mono (by first | decide | omega)) (pa_cons (pv 0) (pa_cons (pv 1) (pa_cons (pv 1) pa_nil)))) (pe_one (pe_callB (cr_all rfl) (by rfl) T.b_all bv_all (pa_cons (pe_lc (own := [("item", 2)]) (g := (gName 2)) (tt := tYes) rfl sc_are_integers.nd (pi_tup (pv 0)) (blkOk_by (N := N_are_integers) (sc := defScope s_are_integers) (by decide +kernel)) (fun _ _ _ _ _ => (pg_name (i := 2) sc_are_integers.nd rfl (Or.inl rfl))) (fun _ _ _ _ _ => pts_nil) (fun _ _ _ _ _ => (pe_cal G_is_integer (hr.mono (by first | decide | omega)) (pa_cons (pv 2) pa_nil)))) pa_nil)))))), ?_⟩
  rcases hk with ⟨a, xs, rfl, ha, hx, hl, rfl⟩ | ⟨T', hk, hn, rfl⟩
  · refine ⟨_, rfl, _, rfl, _, rfl, _, _, _, _, rfl, .inl ⟨a, xs, rfl, ha, rfl⟩, _, rfl, ?_⟩
    by_cases c : (xs.length : Int) = n
    · have e : decide (n ≤ (xs.length : Int) ∧ (xs.length : Int) ≤ n) = true := decide_eq_true (by omega)
      rw [e]
      refine iteT ?_
      refine ⟨_, rfl, a, rfl, ⟨xs, SqT.of ha⟩, fun D hD => ?_⟩
      refine lc_tup (xs := xs) (fun i H' => ∃ bs : List Bool, H' = upd H D (.lst (bs.map V.bl)) ∧ bs = (xs.take i).map isI) ⟨[], rfl, by simp⟩ ?_ ?_ ?_
      · rintro i H' hi ⟨bs, rfl, e⟩
        exact SqT.of (by rw [upd_ne (ne_of_none ha hD)]; exact ha)
      · rintro i x H' hi ⟨bs, rfl, e⟩
        obtain ⟨T', hk⟩ := hx x (List.mem_of_getElem? hi)
        have hk' : KTy (upd H D (.lst (bs.map V.bl))) x T' := by
          cases hk with
          | non => exact .non
          | bl b => exact .bl b
          | int b => exact .int b
          | str b => exact .str b
          | lst e => exact .lst (by rw [upd_ne (ne_of_none e hD)]; exact e)
          | tup e => exact .tup (by rw [upd_ne (ne_of_none e hD)]; exact e)
          | dK e => exact .dK (by rw [upd_ne (ne_of_none e hD)]; exact e)
        refine ⟨rfl, _, rfl, _, _, rfl, hk', _, upd_same, ?_, bs ++ [isI x], ?_, ?_⟩
        · rw [List.length_map, e, List.length_map, List.length_take]; exact szlt (by omega)
        · rw [List.map_append, L2.upd_upd]; rfl
        · rw [List.take_add_one, hi, e]; simp
      · rintro H' ⟨bs, rfl, e⟩
        refine ⟨D, bs, rfl, SqL.of upd_same, ?_⟩
        have e2 : bs.all id = (decide ((xs.length : Int) = n) && xs.all isI) := by
          rw [e, List.take_length, List.all_map]; simp [c]
        rw [e2]
        exact q _ (Same.new hD)
    · have e : decide (n ≤ (xs.length : Int) ∧ (xs.length : Int) ≤ n) = false := decide_eq_false (by omega)
      rw [e]
      refine iteF ?_
      have e2 : (decide ((xs.length : Int) = n) && xs.all isI) = false := by simp [c]
      rw [e2] at q
      exact q _ (Same.refl _)
  · refine ⟨_, rfl, _, rfl, _, rfl, _, _, _, _, rfl, .inr ⟨T', hk, hn, rfl⟩, _, rfl, iteF (q _ (Same.refl _))⟩
theorem ok_check_number (T : Facts w K mg) : OkF P w K mg base (L2.CX P w) 3 "check_number" ["thing", "least", "most"] (spCheck K) := by
  have G_is_within := ok_is_within (P := P) (base := base) T
  refine T.d_check_number.okX sc_check_number bb_check_number (fun vs H Q E h => ?_) (fun f cdv A outer s H vs Q E hr h => ?_)
  · obtain ⟨v, lo, hi, T, rfl, _⟩ := h; rfl
  obtain ⟨v, lo, hi, T', rfl, hk, q1, q2⟩ := h
  refine ⟨_, (pss_one (ps_if (pt_not (pt_val (pe_cal G_is_within (hr.mono (by first | decide | omega)) (pa_cons (pv 0) (pa_cons (pv 1) (pa_cons (pv 2) pa_nil)))))) (pss_one (ps_raise rfl (takes_of rfl rfl rfl rfl) (pmk_own0 PySem.F.excBase_ValueError T.x_NoNumber.x T.g_NoNumber T.x_NoNumber.k (raises_own T.x_NoNumber.b T.x_NoNumber.t) (by rfl)))) pss_nil)), ?_⟩
  refine ⟨_, rfl, _, rfl, _, rfl, _, _, _, _, rfl, hk, _, rfl, ?_⟩
  refine ite2 (fun c => ?_) (fun c => ?_)
  · exact q2 (by simpa using c)
  · exact q1 (by simpa using c)
theorem ok_is_size (T : Facts w K mg) : OkF P w K mg base CX0 3 "is_size" ["thing"] spSize := by
  have G_is_within := ok_is_within (P := P) (base := base) T
  have G_is_pair := ok_is_pair (P := P) (base := base) T
  refine T.d_is_size.ok sc_is_size bb_is_size (fun vs H Q E h => ?_) (fun f cdv A outer s H vs Q E hr h => ?_)
  · obtain ⟨v, _, _, rfl, _⟩ := h; rfl
  obtain ⟨a, x, y, rfl, ha, x1, x2, y1, y2, q⟩ := h
  refine ⟨_, (pss_one (ps_ret (pe_and (pe_cal G_is_pair (hr.mono (by first | decide | omega)) (pa_cons (pv 0) pa_nil)) (pe_and (pe_cal G_is_within (hr.mono (by first | decide | omega)) (pa_cons (pe_ix ix_tup (pv 0) pe_int (fun _ _ => rfl)) (pa_cons pe_int (pa_cons (pe_gi T.c_MOST_SIZE) pa_nil)))) (pe_one (pe_cal G_is_within (hr.mono (by first | decide | omega)) (pa_cons (pe_ix ix_tup (pv 0) pe_int (fun _ _ => rfl)) (pa_cons pe_int (pa_cons (pe_gi T.c_MOST_SIZE) pa_nil))))))))), ?_⟩
  refine ⟨_, rfl, _, _, _, rfl, ha, _, rfl, iteT ?_⟩
  refine ⟨_, rfl, a, _, _, _, rfl, rfl, SqT.of ha, atI_nat (j := 0) rfl, _, _, _, _, rfl, .int x, _, rfl, ?_⟩
  have e : inW 1 1000 (.int x) = true := decide_eq_true ⟨x1, x2⟩
  rw [e]
  refine iteT ?_
  refine ⟨_, rfl, a, _, _, _, rfl, rfl, SqT.of ha, atI_nat (j := 1) rfl, _, _, _, _, rfl, .int y, ?_⟩
  have e : inW 1 1000 (.int y) = true := decide_eq_true ⟨y1, y2⟩
  rw [e]
  exact q
theorem ok_are_contents (T : Facts w K mg) : OkF P w K mg base CX0 3 "are_contents" ["scene", "thing"] (spCont K) := by
  have G_are_integers := ok_are_integers (P := P) (base := base) T
  refine T.d_are_contents.ok sc_are_contents bb_are_contents (fun vs H Q E h => ?_) (fun f cdv A outer s H vs Q E hr h => ?_)
  · obtain ⟨v, _, _, _, _, rfl, _⟩ := h; rfl
  obtain ⟨sc, c, r, v, b, rfl, ⟨dx, p, hs⟩, _, hk, q⟩ := h
  refine ⟨_, (pss_one (ps_ret (pe_cal G_are_integers (hr.mono (by first | decide | omega)) (pa_cons (pv 1) (pa_cons (pe_fld (pv 0) rfl) pa_nil))))), ?_⟩
  exact ⟨_, rfl, _, rfl, _, _, _, _, _, rfl, hs, T.cl_Scene, T.na_Scene_cells, fScn_c, _, _, _, rfl, hk, q⟩
theorem ok_Boxes_init (T : Facts w K mg) : OkM P w K mg base CX0 4 (ga K "Boxes") "__init__" ["self", "sizes"] (spBoxes K) := by
  have G_is_size := ok_is_size (P := P) (base := base) T
  have G_is_sized := ok_is_sized (P := P) (base := base) T
  refine T.d_Boxes___init__.ok sc_Boxes___init__ bb_Boxes___init__ (fun vs H Q E h => ?_) (fun f cdv A outer s H vs Q E hr h => ?_)
  · obtain ⟨o, p, dx, zs, rfl, _⟩ := h; rfl
  obtain ⟨o, p, dx, zs, rfl, ho, ⟨xs, hp, hx⟩, hne, hl, hz, q⟩ := h
  refine ⟨_, (pss_cons (ps_if (pt_not (pt_val (pe_cal G_is_sized (hr.mono (by first | decide | omega)) (pa_cons (pv 1) (pa_cons pe_int (pa_cons (pe_gi T.c_MOST_BOXES) pa_nil)))))) (pss_one ps_never) pss_nil)
      (pss_cons (ps_for PassesOwn.never rfl (pi_enumT (by rfl) T.b_enumerate (pa_cons (pv 1) pa_nil)) (pg_tup rfl (pgs_cons (pg_name (i := 2) sc_Boxes___init__.nd rfl (Or.inl rfl)) (pgs_cons (pg_name (i := 3) sc_Boxes___init__.nd rfl (Or.inl rfl)) pgs_nil))) (pss_one (ps_if (pt_not (pt_val (pe_cal G_is_size (hr.mono (by first | decide | omega)) (pa_cons (pv 3) pa_nil)))) (pss_one ps_never) pss_nil)))
      (pss_cons (ps_fld (pv 0) (pv 1) rfl)
      (pss_one (ps_fld (pv 0) (pe_callB call_len_seq (by rfl) T.b_len PySem.boot_len (pa_cons (pv 1) pa_nil)) rfl))))), ?_⟩
  have exl := hx.len
  have h0 : 0 < xs.length := by rw [exl]; exact List.length_pos_iff.mpr hne
  refine ⟨_, rfl, _, _, _, _, rfl, .inl ⟨p, xs, rfl, hp, rfl⟩, _, rfl, ?_⟩
  have e : decide ((1 : Int) ≤ (xs.length : Int) ∧ (xs.length : Int) ≤ 40) = true := decide_eq_true (by omega)
  rw [e]
  refine iteF ?_
  refine ⟨_, rfl, p, xs, rfl, SqT.of hp, ?_⟩
  refine for_it (walk_enumT (xs := xs)) (fun i σ H' => (∃ n s, σ = [some (.ref o), some (.ref p), n, s]) ∧ Same H H') ⟨⟨_, _, rfl⟩, Same.refl _⟩ ?_ ?_ ?_
  · rintro i σ H' hi ⟨_, hs⟩
    exact SqT.of (hs _ _ hp)
  · rintro i x σ H' H2 hi ⟨⟨n, s', rfl⟩, hs⟩ ⟨t, k, y, rfl, ht, rfl, e1, e2⟩
    cases e1
    obtain ⟨z, hz1, a, rfl, ha⟩ := hx.get' e2
    refine ⟨_, _, rfl, SqT.of upd_same, rfl, _, _, rfl, _, _, rfl, rfl, ?_⟩
    have hm := hz z (List.mem_of_getElem? hz1)
    refine ⟨_, rfl, a, z.1, z.2, rfl, ?_, hm.1, hm.2.1, hm.2.2.1, hm.2.2.2, _, rfl, iteF ?_⟩
    · have := hs _ _ ha
      rw [upd_ne (ne_of_none this ht)]; exact this
    · exact ⟨⟨_, _, rfl⟩, Same.then_ hs ht⟩
  · rintro σ H' ⟨⟨n, s', rfl⟩, hs⟩
    have ho' := hs _ _ ho
    have hp' := hs _ _ hp
    have np : p ≠ o := ne_of hp' ho' (by intro z; cases z)
    refine ⟨_, rfl, _, rfl, o, _, dx, _, rfl, ho', T.cl_Boxes, T.na_Boxes_sizes, (by decide), ?_⟩
    refine ⟨_, rfl, p, xs, rfl, .inr (SqT.of (by rw [upd_ne np]; exact hp')), _, rfl, o, _, dx, _, rfl, upd_same, T.cl_Boxes, T.na_Boxes_many, (by show 1 < 1000; decide), ?_⟩
    have q' := q H' hs
    rw [← fBox_put] at q'
    rw [exl]
    exact q'
end
end K34

set_option Elab.async false
set_option linter.all false
set_option maxRecDepth 100000
set_option maxHeartbeats 4000000
/-! D2: a scene is right. -/
namespace K34
open PySem PySem.Spec PyProof.Rows L2
open He (ga ma)
theorem itT {c : Bool} {A B : Prop} (e : c = true) (h : A) : if c = true then A else B := by rw [if_pos e]; exact h
theorem itF {c : Bool} {A B : Prop} (e : c = false) (h : B) : if c = true then A else B := by rw [e]; exact h
theorem Same.refl' {H : Hp} : Same H H := fun _ _ e => e
theorem _root_.L2.Same.at_ {H H' : Hp} {a : Addr} {o : HO} (h : Same H H') (e : H a = some o) : H' a = some o := h a o e
/-- a new object more -/
theorem newAt {H : Hp} {a p : Addr} {o u : HO} (e : H a = some o) (hp : H p = none) : L2.upd H p u a = some o := by rw [upd_ne (ne_of_none e hp)]; exact e
theorem DefAt.none {P : Program} {w : World} {K : PySem.W.Frag} {mg : Str → Option Value} {base : Heap} {x : Str} {st : Stmt} {N ps : List Str} {sp : Sp} {k : Nat} (D : DefAt K mg x st) (B : BindsBy x x st ps) (no : ∀ vs H Q E, ¬ sp vs H Q E) : OkF P w K mg base CX0 k x ps sp := by
  obtain ⟨f, fd, F, hm⟩ := D
  exact ⟨f, fd, ⟨fun vs H Q E h => absurd h (no vs H Q E), fun A outer s H args us vs Q E _ _ _ _ h => absurd h (no vs H Q E)⟩, F.bindsN B, F.kp, hm⟩
def parts : List (Str × Int) := [("set", 3), ("put", 4), ("ask", 4), ("call", 2), ("if", 4), ("while", 3)]
def isPl : Stm → Bool
  | .ite _ _ _ => false
  | .whl _ _ => false
  | _ => true
theorem word_pl {s : Stm} (h : isPl s = true) : (!inV (.str (wordS s)) [.str "if", .str "while"]) = true := by
  cases s with
  | set c s => show (!inV (.str "set") [.str "if", .str "while"]) = true; decide +kernel
  | put b x y => show (!inV (.str "put") [.str "if", .str "while"]) = true; decide +kernel
  | ask c w s => show (!inV (.str "ask") [.str "if", .str "while"]) = true; decide +kernel
  | call r => show (!inV (.str "call") [.str "if", .str "while"]) = true; decide +kernel
  | ite t y n => cases h
  | whl t b => cases h
theorem word_np {s : Stm} (h : ¬ isPl s = true) : (!inV (.str (wordS s)) [.str "if", .str "while"]) = false := by
  cases s with
  | set c s => exact absurd rfl h
  | put b x y => exact absurd rfl h
  | ask c w s => exact absurd rfl h
  | call r => exact absurd rfl h
  | ite t y n => show (!inV (.str "if") [.str "if", .str "while"]) = false; decide +kernel
  | whl t b => show (!inV (.str "while") [.str "if", .str "while"]) = false; decide +kernel
theorem sz_pl {s : Stm} (h : isPl s = true) : szS s = 1 := by
  cases s with
  | ite t y n => cases h
  | whl t b => cases h
  | _ => rw [szS]
def spSum : Sp := fun vs H Q _ => ∃ (c : Nat) (v : V) (s : Sm), vs = [.int (c : Int), v] ∧ SmA H v s ∧ OkSm c s ∧ c ≤ 5 ∧ ∀ H', Same H H' → Q (.bl true) H'
def spTest : Sp := fun vs H Q _ => ∃ (c : Nat) (v : V) (t : Tst), vs = [.int (c : Int), v] ∧ TsA H v t ∧ OkT c t ∧ c ≤ 5 ∧ ∀ H', Same H H' → Q (.bl true) H'
def spPlain : Sp := fun vs H Q _ => ∃ (c r : Nat) (v : V) (s : Stm), vs = [.int (c : Int), .int (r : Int), v] ∧ StA H s v ∧ OkS c r s ∧ isPl s = true ∧ c ≤ 5 ∧ ∀ H', Same H H' → Q (.bl true) H'
def spStSz (n : Nat) : Sp := fun vs H Q _ => ∃ (c r d : Nat) (v : V) (s : Stm), vs = [.int (c : Int), .int (r : Int), .int (d : Int), v] ∧ StA H s v ∧ OkS c r s ∧ c ≤ 5 ∧ d + dpS s ≤ 8 ∧ dpS s ≤ n ∧ szS s ≤ 1000 ∧ ∀ H', Same H H' → Q (.int (szS s : Int)) H'
def spBdSz (n : Nat) : Sp := fun vs H Q _ => ∃ (c r d : Nat) (q : Addr) (b : List Stm), vs = [.int (c : Int), .int (r : Int), .int (d : Int), .ref q] ∧ BdA H q b ∧ OkB c r b ∧ c ≤ 5 ∧ d + dpB b ≤ 8 ∧ dpB b < n ∧ szB b ≤ 1000 ∧ ∀ H', Same H H' → Q (.int (szB b : Int)) H'
section
variable {P : Program} {w : World} {K : PySem.W.Frag} {mg : Str → Option Value} {base : Heap}
theorem ok_is_sum (T : Facts w K mg) : OkF P w K mg base CX0 2 "is_sum" ["cells", "thing"] spSum := by
  have G_is_integer := ok_is_integer (P := P) (base := base) T
  have G_is_sized := ok_is_sized (P := P) (base := base) T
  refine T.d_is_sum.ok sc_is_sum bb_is_sum (fun vs H Q E h => ?_) (fun f cdv A outer s H vs Q E hr h => ?_)
  · obtain ⟨c, v, s, rfl, _⟩ := h; rfl
  obtain ⟨c, v, z, rfl, ⟨a, rfl, ha⟩, ⟨hl, hz⟩, hc, q⟩ := h
  refine ⟨_, (pss_cons (ps_if (pt_not (pt_val (pe_cal G_is_sized (hr.mono (by first | decide | omega)) (pa_cons (pv 1) (pa_cons (pe_op op_add (pv 0) pe_int) (pa_cons (pe_op op_add (pv 0) pe_int) pa_nil)))))) (pss_one (ps_ret pe_bl)) pss_nil)
      (pss_one (ps_ret (pe_callB (cr_all rfl) (by rfl) T.b_all bv_all (pa_cons (pe_lc (own := [("item", 2)]) (g := (gName 2)) (tt := tYes) rfl sc_is_sum.nd (pi_tup (pv 1)) (blkOk_by (N := N_is_sum) (sc := defScope s_is_sum) (by decide +kernel)) (fun _ _ _ _ _ => (pg_name (i := 2) sc_is_sum.nd rfl (Or.inl rfl))) (fun _ _ _ _ _ => pts_nil) (fun _ _ _ _ _ => (pe_and (pe_cal G_is_integer (hr.mono (by first | decide | omega)) (pa_cons (pv 2) pa_nil)) (pe_one (pe_cmpR op_le (pe_callB call_abs (by rfl) T.b_abs bv_abs (pa_cons (pv 2) pa_nil)) (pe_gi T.c_MOST_MULTIPLE) (nomark _)))))) pa_nil))))), ?_⟩
  refine ⟨_, rfl, _, rfl, _, _, rfl, rfl, _, rfl, _, _, rfl, rfl, _, _, _, _, rfl, .inl ⟨a, _, rfl, ha, rfl⟩, _, rfl, ?_⟩
  have e : decide ((c : Int) + 1 ≤ ((z.map V.int).length : Int) ∧ ((z.map V.int).length : Int) ≤ (c : Int) + 1) = true := by
    rw [List.length_map, hl]; exact decide_eq_true (by omega)
  refine itF (by rw [e]; rfl) ?_
  refine ⟨_, rfl, a, rfl, ⟨_, SqT.of ha⟩, fun D hD => ?_⟩
  refine lc_tup (xs := z.map V.int) (fun i H' => H' = upd H D (.lst ((List.replicate i true).map V.bl))) (by rfl) ?_ ?_ ?_
  · rintro i H' hi rfl
    exact SqT.of (newAt ha hD)
  · rintro i x H' hi rfl
    obtain ⟨m, hm, rfl⟩ : ∃ m, z[i]? = some m ∧ V.int m = x := by
      rw [List.getElem?_map] at hi
      cases h2 : z[i]? with
      | none => rw [h2] at hi; cases hi
      | some m => rw [h2] at hi; exact ⟨m, rfl, Option.some.inj hi⟩
    have hi2 := (List.getElem?_eq_some_iff.mp hm).1
    have hb := hz m (List.mem_of_getElem? hm)
    refine ⟨rfl, _, rfl, _, _, rfl, .int m, _, rfl, ?_⟩
    refine itT rfl ?_
    refine ⟨_, rfl, _, rfl, _, _, rfl, rfl, ?_⟩
    have e3 : decide ((if m < 0 then -m else m) ≤ 1000) = true := by
      refine decide_eq_true ?_
      split <;> omega
    refine ⟨_, upd_same, ?_, ?_⟩
    · rw [List.length_map, List.length_replicate]; exact szlt (by omega)
    · show upd (upd H D _) D (.lst (_ ++ [V.bl (decide ((if m < 0 then -m else m) ≤ 1000))])) = _
      rw [e3, L2.upd_upd, List.replicate_succ', List.map_append]; rfl
  · rintro H' rfl
    refine ⟨D, _, rfl, SqL.of upd_same, ?_⟩
    have e2 : (List.replicate (z.map V.int).length true).all id = true := by simp
    rw [e2]
    exact q _ (Same.new hD)
theorem inv_ts (b : Bool) : inV (.str (tsS b)) [.str "less", .str "same"] = true := by cases b <;> decide +kernel
theorem ok_is_test (T : Facts w K mg) : OkF P w K mg base CX0 3 "is_test" ["cells", "thing"] spTest := by
  have G_is_sum := ok_is_sum (P := P) (base := base) T
  have G_is_sized := ok_is_sized (P := P) (base := base) T
  refine T.d_is_test.ok sc_is_test bb_is_test (fun vs H Q E h => ?_) (fun f cdv A outer s H vs Q E hr h => ?_)
  · obtain ⟨c, v, s, rfl, _⟩ := h; rfl
  obtain ⟨c, v, t, rfl, ⟨a, p, q, rfl, ha, hp, hq⟩, ⟨o1, o2⟩, hc, qq⟩ := h
  refine ⟨_, (pss_cons (ps_if (PW.pt (pw_or (pt_not (pt_val (pe_cal G_is_sized (hr.mono (by first | decide | omega)) (pa_cons (pv 1) (pa_cons pe_int (pa_cons pe_int pa_nil)))))) (pw_or (pt_not (pt_val (pe_callB call_isi (by rfl) T.b_isinstance bv_isinstance (pa_cons (pe_ix ix_tup (pv 1) pe_int (fun _ _ => rfl)) (pa_cons (pe_bty T.b_str bv_str) pa_nil))))) (pw_or1 (pt_cmpR op_notIn_seq (pe_ix ix_tup (pv 1) pe_int (fun _ _ => rfl)) (pe_tup (pa_cons (pe_gs T.c_LESS) (pa_cons (pe_gs T.c_SAME) pa_nil))) rfl))))) (pss_one (ps_ret pe_bl)) pss_nil)
      (pss_one (ps_ret (pe_and (pe_cal G_is_sum (hr.mono (by first | decide | omega)) (pa_cons (pv 0) (pa_cons (pe_ix ix_tup (pv 1) pe_int (fun _ _ => rfl)) pa_nil))) (pe_one (pe_cal G_is_sum (hr.mono (by first | decide | omega)) (pa_cons (pv 0) (pa_cons (pe_ix ix_tup (pv 1) pe_int (fun _ _ => rfl)) pa_nil)))))))), ?_⟩
  refine ⟨_, rfl, _, _, _, _, rfl, .inl ⟨a, _, rfl, ha, rfl⟩, _, rfl, itF rfl ?_⟩
  have hk : KTy H (.str (tsS t.less)) "str" := .str _
  refine ⟨_, rfl, _, _, _, _, rfl, rfl, SqT.of (ha), atI_nat (j := 0) rfl, _, _, _, _, _, rfl, .ty _, hk.tyX, hk.kstr, _, rfl, itF rfl ?_⟩
  refine ⟨_, rfl, _, _, _, _, rfl, rfl, SqT.of (ha), atI_nat (j := 0) rfl, (by show 2 ≤ sizeLine; decide), fun l hl => ?_⟩
  refine ⟨l, _, rfl, .inr (SqT.of upd_same), rfl, rfl, _, rfl, itF ?_ ?_⟩
  · show (!inV (.str (tsS t.less)) [.str "less", .str "same"]) = false
    rw [inv_ts]; rfl
  have g : Same H (upd H l (.tup [V.str "less", V.str "same"])) := Same.new hl
  refine ⟨_, rfl, _, rfl, _, _, _, _, rfl, rfl, SqT.of (g.at_ ha), atI_nat (j := 1) rfl, _, _, _, rfl, hp.mono (Same.tups g), o1, hc, fun H1 g1 => ⟨_, rfl, itT rfl ?_⟩⟩
  have g2 := g.trans g1
  exact ⟨_, rfl, _, rfl, _, _, _, _, rfl, rfl, SqT.of (g2.at_ ha), atI_nat (j := 2) rfl, _, _, _, rfl, hq.mono (Same.tups g2), o2, hc, fun H3 g3 => qq _ (g2.trans g3)⟩
theorem sum3 {z : List Int} {x y b : V} {H : Hp} : True := trivial
theorem ok_is_plain (T : Facts w K mg) : OkF P w K mg base CX0 4 "is_plain" ["cells", "routines", "thing"] spPlain := by
  have G_is_sum := ok_is_sum (P := P) (base := base) T
  have G_is_below := ok_is_below (P := P) (base := base) T
  refine T.d_is_plain.ok sc_is_plain bb_is_plain (fun vs H Q E h => ?_) (fun f cdv A outer s H vs Q E hr h => ?_)
  · obtain ⟨c, r, v, s, rfl, _⟩ := h; rfl
  obtain ⟨c, r, v, st, rfl, hs, ok, pl, hc, qq⟩ := h
  refine ⟨_, (pss_cons (ps_if (pt_cmpR op_eq (pe_ix ix_tup (pv 2) pe_int (fun _ _ => rfl)) (pe_gs T.c_SET) (nomark _)) (pss_one (ps_ret (pe_and (pe_cal G_is_below (hr.mono (by first | decide | omega)) (pa_cons (pe_ix ix_tup (pv 2) pe_int (fun _ _ => rfl)) (pa_cons (pv 0) pa_nil))) (pe_one (pe_cal G_is_sum (hr.mono (by first | decide | omega)) (pa_cons (pv 0) (pa_cons (pe_ix ix_tup (pv 2) pe_int (fun _ _ => rfl)) pa_nil))))))) pss_nil)
      (pss_cons (ps_if (pt_cmpR op_eq (pe_ix ix_tup (pv 2) pe_int (fun _ _ => rfl)) (pe_gs T.c_PUT) (nomark _)) (pss_one (ps_ret (pe_callB (cr_all rfl) (by rfl) T.b_all bv_all (pa_cons (pe_lc (own := [("part", 3)]) (g := (gName 3)) (tt := tYes) rfl sc_is_plain.nd (pi_tup (pe_slice sl_tupA (pv 2) (po_some pe_int) po_none)) (blkOk_by (N := N_is_plain) (sc := defScope s_is_plain) (by decide +kernel)) (fun _ _ _ _ _ => (pg_name (i := 3) sc_is_plain.nd rfl (Or.inl rfl))) (fun _ _ _ _ _ => pts_nil) (fun _ _ _ _ _ => (pe_cal G_is_sum (hr.mono (by first | decide | omega)) (pa_cons (pv 0) (pa_cons (pv 3) pa_nil))))) pa_nil)))) pss_nil)
      (pss_cons (ps_if (pt_cmpR op_eq (pe_ix ix_tup (pv 2) pe_int (fun _ _ => rfl)) (pe_gs T.c_CALL) (nomark _)) (pss_one (ps_ret (pe_cal G_is_below (hr.mono (by first | decide | omega)) (pa_cons (pe_ix ix_tup (pv 2) pe_int (fun _ _ => rfl)) (pa_cons (pv 1) pa_nil))))) pss_nil)
      (pss_cons (ps_if (PW.pt (pw_or (pt_not (pt_val (pe_cal G_is_below (hr.mono (by first | decide | omega)) (pa_cons (pe_ix ix_tup (pv 2) pe_int (fun _ _ => rfl)) (pa_cons (pv 0) pa_nil))))) (pw_or (pt_not (pt_val (pe_callB call_isi (by rfl) T.b_isinstance bv_isinstance (pa_cons (pe_ix ix_tup (pv 2) pe_int (fun _ _ => rfl)) (pa_cons (pe_bty T.b_str bv_str) pa_nil))))) (pw_or1 (pt_cmpR op_notIn_seq (pe_ix ix_tup (pv 2) pe_int (fun _ _ => rfl)) (pe_gr T.g_ASKED) rfl))))) (pss_one (ps_ret pe_bl)) pss_nil)
      (pss_one (ps_ret (pe_cal G_is_sum (hr.mono (by first | decide | omega)) (pa_cons (pv 0) (pa_cons (pe_ix ix_tup (pv 2) pe_int (fun _ _ => rfl)) pa_nil))))))))), ?_⟩
  cases st with
  | set k z =>
    rw [StA] at hs
    rw [OkS] at ok
    obtain ⟨a, p, rfl, ha, hp⟩ := hs
    refine ⟨_, rfl, _, _, _, _, rfl, rfl, SqT.of (ha), atI_nat (j := 0) rfl, rfl, _, rfl, itT (by decide +kernel) ?_⟩
    refine ⟨_, rfl, _, _, _, _, rfl, rfl, SqT.of (ha), atI_nat (j := 1) rfl, _, rfl, _, _, rfl, _, rfl, itT (decide_eq_true (by omega)) ?_⟩
    exact ⟨_, rfl, _, rfl, _, _, _, _, rfl, rfl, SqT.of (ha), atI_nat (j := 2) rfl, _, _, _, rfl, hp, ok.2, hc, qq⟩
  | put b x y =>
    rw [StA] at hs
    rw [OkS] at ok
    obtain ⟨a, p, q, r', rfl, ha, hp, hq, hr'⟩ := hs
    refine ⟨_, rfl, _, _, _, _, rfl, rfl, SqT.of (ha), atI_nat (j := 0) rfl, rfl, _, rfl, itF (by decide +kernel) ?_⟩
    refine ⟨_, rfl, _, _, _, _, rfl, rfl, SqT.of (ha), atI_nat (j := 0) rfl, rfl, _, rfl, itT (by decide +kernel) ?_⟩
    refine ⟨_, rfl, _, rfl, a, _, rfl, SqT.of ha, fun hw => absurd hw.1 (by show ¬ (min 1 4 = 0); decide), fun _ p2 hp2 => ⟨p2, rfl, ⟨_, SqT.of upd_same⟩, fun D hD => ?_⟩⟩
    have g0 : Same H (upd H p2 (.tup [p, q, r'])) := Same.new hp2
    have e0 : cutV [V.str "put", p, q, r'] (some 1) none = [p, q, r'] := rfl
    rw [e0] at hD ⊢
    refine lc_tup (xs := [p, q, r']) (fun i H' => Same H H' ∧ H' p2 = some (.tup [p, q, r']) ∧ H' D = some (.lst ((List.replicate i true).map V.bl))) ⟨Same.then_ g0 hD, newAt upd_same hD, upd_same⟩ ?_ ?_ ?_
    · rintro i H' hi ⟨g, h1, h2⟩
      exact SqT.of h1
    · rintro i v H' hi ⟨g, h1, h2⟩
      have nD : H D = none := by
        cases e : H D with
        | none => rfl
        | some o => rw [g0.at_ e] at hD; cases hD
      have hv : ∃ s, SmA H v s ∧ OkSm c s := by
        match i, hi with
        | 0, hi => cases hi; exact ⟨_, hp, ok.1⟩
        | 1, hi => cases hi; exact ⟨_, hq, ok.2.1⟩
        | 2, hi => cases hi; exact ⟨_, hr', ok.2.2⟩
      obtain ⟨s', hv, ok'⟩ := hv
      have hi2 := (List.getElem?_eq_some_iff.mp hi).1
      refine ⟨rfl, _, rfl, _, rfl, _, _, _, rfl, hv.mono (Same.tups g), ok', hc, fun H1 g1 => ⟨_, g1.at_ h2, ?_, ?_⟩⟩
      · rw [List.length_map, List.length_replicate]; exact szlt (by have : i < 3 := hi2; omega)
      · refine ⟨Same.mut (g.trans g1) nD, ?_, ?_⟩
        · have : p2 ≠ D := ne_of (g1.at_ h1) (g1.at_ h2) (by intro z; cases z)
          rw [upd_ne this]; exact g1.at_ h1
        · rw [upd_same, List.replicate_succ', List.map_append]; rfl
    · rintro H' ⟨g, h1, h2⟩
      exact ⟨D, [true, true, true], rfl, SqL.of h2, qq _ g⟩
  | call k =>
    rw [StA] at hs
    rw [OkS] at ok
    obtain ⟨a, rfl, ha⟩ := hs
    refine ⟨_, rfl, _, _, _, _, rfl, rfl, SqT.of (ha), atI_nat (j := 0) rfl, rfl, _, rfl, itF (by decide +kernel) ?_⟩
    refine ⟨_, rfl, _, _, _, _, rfl, rfl, SqT.of (ha), atI_nat (j := 0) rfl, rfl, _, rfl, itF (by decide +kernel) ?_⟩
    refine ⟨_, rfl, _, _, _, _, rfl, rfl, SqT.of (ha), atI_nat (j := 0) rfl, rfl, _, rfl, itT (by decide +kernel) ?_⟩
    refine ⟨_, rfl, _, _, _, _, rfl, rfl, SqT.of (ha), atI_nat (j := 1) rfl, _, rfl, _, _, rfl, ?_⟩
    have e : decide ((0 : Int) ≤ (k : Int) ∧ (k : Int) < (r : Int)) = true := decide_eq_true (by omega)
    rw [e]
    exact qq _ Same.refl'
  | ask k wd z =>
    rw [StA] at hs
    rw [OkS] at ok
    obtain ⟨a, p, rfl, ha, hp⟩ := hs
    refine ⟨_, rfl, _, _, _, _, rfl, rfl, SqT.of (ha), atI_nat (j := 0) rfl, rfl, _, rfl, itF (by decide +kernel) ?_⟩
    refine ⟨_, rfl, _, _, _, _, rfl, rfl, SqT.of (ha), atI_nat (j := 0) rfl, rfl, _, rfl, itF (by decide +kernel) ?_⟩
    refine ⟨_, rfl, _, _, _, _, rfl, rfl, SqT.of (ha), atI_nat (j := 0) rfl, rfl, _, rfl, itF (by decide +kernel) ?_⟩
    have hk : KTy H (.str (wdS wd)) "str" := .str _
    refine ⟨_, rfl, _, _, _, _, rfl, rfl, SqT.of (ha), atI_nat (j := 1) rfl, _, rfl, _, _, rfl, _, rfl, itF ?_ ?_⟩
    · show (!decide ((0 : Int) ≤ (k : Int) ∧ (k : Int) < (c : Int))) = false
      rw [decide_eq_true (by omega)]; rfl
    refine ⟨_, rfl, _, _, _, _, rfl, rfl, SqT.of (ha), atI_nat (j := 2) rfl, _, _, _, _, _, rfl, .ty _, hk.tyX, hk.kstr, _, rfl, itF rfl ?_⟩
    refine ⟨_, rfl, _, _, _, _, rfl, rfl, SqT.of (ha), atI_nat (j := 2) rfl, ga K "ASKED", _, rfl, .inr (T.asked _), rfl, rfl, _, rfl, itF ?_ ?_⟩
    · show (!inV (.str (wdS wd)) [.str "width", .str "height", .str "left", .str "top"]) = false
      cases wd <;> decide +kernel
    · exact ⟨_, rfl, _, rfl, _, _, _, _, rfl, rfl, SqT.of (ha), atI_nat (j := 3) rfl, _, _, _, rfl, hp, ok.2, hc, qq⟩
  | ite t y n => cases pl
  | whl t b => cases pl
theorem list_ints {z : List Int} {i : Nat} {x : V} (hi : (z.map V.int)[i]? = some x) : ∃ m, z[i]? = some m ∧ V.int m = x := by
  rw [List.getElem?_map] at hi
  cases h2 : z[i]? with
  | none => rw [h2] at hi; cases hi
  | some m => rw [h2] at hi; exact ⟨m, rfl, Option.some.inj hi⟩
theorem inv_non (z : List Int) : inV .non (z.map V.int) = false := by
  induction z with
  | nil => rfl
  | cons a r ih => rw [List.map_cons, inV, List.any_cons]; exact ih
theorem flat_ints (z : List Int) : (z.map V.int).all flatV = true := by
  induction z with
  | nil => rfl
  | cons a r ih => rw [List.map_cons, List.all_cons, ih]; rfl
/-- the bodies within: their sizes -/
theorem sizes_of {T : Facts w K mg} {n : Nat} : True := trivial
theorem ok_statement_size (T : Facts w K mg) (n : Nat) (G_body_size : OkF P w K mg base CX0 (5 + 2 * n) "body_size" ["cells", "routines", "deep", "thing"] (spBdSz n)) : OkF P w K mg base CX0 (6 + 2 * n) "statement_size" ["cells", "routines", "deep", "thing"] (spStSz n) := by
  have G_is_test := ok_is_test (P := P) (base := base) T
  have G_is_plain := ok_is_plain (P := P) (base := base) T
  have e6 : 6 + 2 * n = (5 + 2 * n) + 1 := by omega
  rw [e6]
  refine T.d_statement_size.ok sc_statement_size bb_statement_size (fun vs H Q E h => ?_) (fun f cdv A outer s H vs Q E hr h => ?_)
  · obtain ⟨c, r, d, v, st, rfl, _⟩ := h; rfl
  obtain ⟨c, r, d, v, st, rfl, hs, ok, hc, hd, hn, hz, qq⟩ := h
  obtain ⟨a, xs, rfl, ha⟩ := hs.head
  refine ⟨_, (pss_cons (ps_if (PW.pt (pw_or (pt_not (pt_val (pe_callB call_isi (by rfl) T.b_isinstance bv_isinstance (pa_cons (pv 3) (pa_cons (pe_bty T.b_tuple bv_tuple) pa_nil))))) (pw_or (pt_cmpR op_eq (pe_callB call_len_seq (by rfl) T.b_len PySem.boot_len (pa_cons (pv 3) pa_nil)) pe_int (nomark _)) (pw_or1 (pt_not (pt_val (pe_callB call_isi (by rfl) T.b_isinstance bv_isinstance (pa_cons (pe_ix ix_tup (pv 3) pe_int (fun _ _ => rfl)) (pa_cons (pe_bty T.b_str bv_str) pa_nil))))))))) (pss_one (ps_ret pe_non)) pss_nil)
      (pss_cons (ps_if (pt_cmpR op_ne (pe_kget2 T.parts.d T.parts.v (pe_gr T.g_PARTS) (pe_ix ix_tup (pv 3) pe_int (fun _ _ => rfl)) pe_int ⟨rfl, rfl, rfl, rfl⟩) (pe_callB call_len_seq (by rfl) T.b_len PySem.boot_len (pa_cons (pv 3) pa_nil)) (nomark _)) (pss_one (ps_ret pe_non)) pss_nil)
      (pss_cons (ps_if (pt_cmpR op_notIn_seq (pe_ix ix_tup (pv 3) pe_int (fun _ _ => rfl)) (pe_tup (pa_cons (pe_gs T.c_IF) (pa_cons (pe_gs T.c_WHILE) pa_nil))) rfl) (pss_one (ps_ret (pe_ifExp (pt_val (pe_cal G_is_plain (hr.mono (by first | decide | omega)) (pa_cons (pv 0) (pa_cons (pv 1) (pa_cons (pv 3) pa_nil))))) pe_int pe_non))) pss_nil)
      (pss_cons (ps_if (pt_not (pt_val (pe_cal G_is_test (hr.mono (by first | decide | omega)) (pa_cons (pv 0) (pa_cons (pe_ix ix_tup (pv 3) pe_int (fun _ _ => rfl)) pa_nil))))) (pss_one (ps_ret pe_non)) pss_nil)
      (pss_cons (ps_setLc (i := 4) (own := [("body", 5)]) (g := (gName 5)) (tt := tYes) rfl sc_statement_size.nd rfl rfl (sw_true rfl rfl rfl (by decide +kernel)) (pi_tup (pe_slice sl_tupA (pv 3) (po_some pe_int) po_none)) (blkOk_by (N := N_statement_size) (sc := defScope s_statement_size) (by decide +kernel)) (fun _ _ _ _ _ => (pg_name (i := 5) sc_statement_size.nd rfl (Or.inl rfl))) (fun _ _ _ _ _ => pts_nil) (fun _ _ _ _ _ => (pe_cal G_body_size (hr.mono (by first | decide | omega)) (pa_cons (pv 0) (pa_cons (pv 1) (pa_cons (pe_op op_add (pv 2) pe_int) (pa_cons (pv 5) pa_nil)))))))
      (pss_one (ps_ret (pe_ifExp (pt_cmpR op_in_seq pe_non (pv 4) rfl) pe_non (pe_op op_add pe_int (pe_callB (cr_sum rfl) (by rfl) T.b_sum bv_sum (pa_cons (pv 4) pa_nil))))))))))), ?_⟩
  have hk : KTy H (.ref a) "tuple" := .tup ha
  have hk2 : KTy H (.str (wordS st)) "str" := .str _
  refine ⟨_, rfl, _, _, _, _, _, rfl, .ty _, hk.tyX, hk.ktup, _, rfl, itF rfl ?_⟩
  refine ⟨_, rfl, a, _, rfl, .inr (SqT.of ha), rfl, _, rfl, itF ?_ ?_⟩
  · refine decide_eq_false ?_
    intro z
    have := V.int.inj z
    rw [List.length_cons] at this
    omega
  refine ⟨_, rfl, _, _, _, _, rfl, rfl, SqT.of (ha), atI_nat (j := 0) rfl, _, _, _, _, _, rfl, .ty _, hk2.tyX, hk2.kstr, _, rfl, itF rfl ?_⟩
  have hpart : (wordS st, ((xs.length + 1 : Nat) : Int)) ∈ parts := by
    cases st <;> rw [StA] at hs
    · obtain ⟨a', p, e, e2, _⟩ := hs; cases e; rw [ha] at e2; cases e2; simp [parts, wordS]
    · obtain ⟨a', p, q, r, e, e2, _⟩ := hs; cases e; rw [ha] at e2; cases e2; simp [parts, wordS]
    · obtain ⟨a', p, e, e2, _⟩ := hs; cases e; rw [ha] at e2; cases e2; simp [parts, wordS]
    · obtain ⟨a', e, e2⟩ := hs; cases e; rw [ha] at e2; cases e2; simp [parts, wordS]
    · obtain ⟨a', p, q, r, e, e2, _⟩ := hs; cases e; rw [ha] at e2; cases e2; simp [parts, wordS]
    · obtain ⟨a', p, q, e, e2, _⟩ := hs; cases e; rw [ha] at e2; cases e2; simp [parts, wordS]
  refine ⟨_, rfl, _, _, _, _, rfl, rfl, SqT.of (ha), atI_nat (j := 0) rfl, _, _, rfl, hpart, _, rfl, a, _, rfl, .inr (SqT.of ha), rfl, _, rfl, itF ?_ ?_⟩
  · show (!decide (V.int ((xs.length + 1 : Nat) : Int) = V.int ((V.str (wordS st) :: xs).length : Int))) = false
    rw [List.length_cons, decide_eq_true rfl]; rfl
  refine ⟨_, rfl, _, _, _, _, rfl, rfl, SqT.of (ha), atI_nat (j := 0) rfl, (by show 2 ≤ sizeLine; decide), fun l hl => ?_⟩
  have g : Same H (upd H l (.tup [V.str "if", V.str "while"])) := Same.new hl
  refine ⟨l, _, rfl, .inr (SqT.of upd_same), rfl, rfl, _, rfl, ?_⟩
  by_cases pl : isPl st = true
  · refine itT ?_ ?_
    · show (!inV (.str (wordS st)) [.str "if", .str "while"]) = true
      exact word_pl pl
    · have e1 : szS st = 1 := by exact sz_pl pl
      rw [e1] at qq
      exact ⟨_, rfl, _, rfl, _, rfl, _, _, _, _, rfl, hs.mono (Same.tups g) _ _, ok, pl, hc, fun H1 g1 => ⟨_, rfl, itT rfl (qq _ (g.trans g1))⟩⟩
  · refine itF ?_ ?_
    · show (!inV (.str (wordS st)) [.str "if", .str "while"]) = false
      exact word_np pl
    -- the test, the bodies
    have hts : ∃ (t : Tst) (p : V) (qs : List V) (bs : List (List Stm)), xs = p :: qs ∧ TsA H p t ∧ OkT c t ∧ All2 (fun v b => ∃ q, v = .ref q ∧ BdA H q b) qs bs ∧ (∀ b ∈ bs, OkB c r b ∧ dpB b + 1 ≤ dpS st ∧ szB b ≤ 1000) ∧ szS st = 1 + (bs.map szB).sum ∧ qs ≠ [] ∧ bs.length ≤ 2 := by
      cases st with
      | ite t y m =>
        rw [StA] at hs
        rw [OkS] at ok
        rw [szS] at hz
        obtain ⟨a', p, q, r', e, e2, ht, hy, hm⟩ := hs
        cases e; rw [ha] at e2; cases e2
        refine ⟨t, p, _, [y, m], rfl, ht, ok.1, .cons ⟨_, rfl, hy⟩ (.cons ⟨_, rfl, hm⟩ .nil), ?_, ?_, by simp, by simp⟩
        · intro b hb
          rw [dpS]
          have h1 := Nat.le_max_left (dpB y) (dpB m)
          have h2 := Nat.le_max_right (dpB y) (dpB m)
          rcases List.mem_cons.mp hb with rfl | hb
          · exact ⟨ok.2.1, by omega, by omega⟩
          · have : b = m := by simpa using hb
            subst this
            exact ⟨ok.2.2, by omega, by omega⟩
        · rw [szS]; simp
      | whl t b =>
        rw [StA] at hs
        rw [OkS] at ok
        rw [szS] at hz
        obtain ⟨a', p, q, e, e2, ht, hy⟩ := hs
        cases e; rw [ha] at e2; cases e2
        refine ⟨t, p, _, [b], rfl, ht, ok.1, .cons ⟨_, rfl, hy⟩ .nil, ?_, ?_, by simp, by simp⟩
        · intro b' hb
          have : b' = b := by simpa using hb
          subst this
          rw [dpS]
          exact ⟨ok.2, by omega, by omega⟩
        · rw [szS]; simp
      | set _ _ => exact absurd rfl pl
      | put _ _ _ => exact absurd rfl pl
      | ask _ _ _ => exact absurd rfl pl
      | call _ => exact absurd rfl pl
    obtain ⟨t, p, qs, bs, rfl, ht, okt, hb, hbs, hsz, hq0, hl2⟩ := hts
    refine ⟨_, rfl, _, rfl, _, _, _, _, rfl, rfl, SqT.of (g.at_ ha), atI_nat (j := 1) rfl, _, _, _, rfl, ht.mono (Same.tups g), okt, hc, fun H1 g1 => ⟨_, rfl, itF rfl ?_⟩⟩
    have g2 := g.trans g1
    refine ⟨_, rfl, _, rfl, a, _, rfl, SqT.of (g2.at_ ha), fun hw => absurd hw.1 (by show ¬ (min 2 (qs.length + 1 + 1) = 0); omega), fun _ p2 hp2 => ⟨p2, rfl, ⟨_, SqT.of upd_same⟩, fun D hD => ?_⟩⟩
    have e0 : cutV (V.str (wordS st) :: p :: qs) (some 2) none = qs := by
      unfold cutV
      have e1 : HT.sIx (V.str (wordS st) :: p :: qs).length 0 (some 2) = 2 := by
        show min 2 (qs.length + 1 + 1) = 2; omega
      rw [e1]
      show List.take (qs.length + 1 + 1 - 2) qs = qs
      exact List.take_of_length_le (by omega)
    rw [e0] at hD ⊢
    have g3 : Same H (upd H1 p2 (.tup qs)) := Same.then_ g2 hp2
    have nD : H D = none := by
      cases e : H D with
      | none => rfl
      | some o => rw [g3.at_ e] at hD; cases hD
    have ql : qs.length = bs.length := hb.len
    refine lc_tup (xs := qs) (fun i H' => Same H H' ∧ H' p2 = some (.tup qs) ∧ H' D = some (.lst (((bs.take i).map fun b => (szB b : Int)).map V.int))) ⟨Same.then_ g3 hD, newAt upd_same hD, upd_same⟩ ?_ ?_ ?_
    · rintro i H' hi ⟨g, h1, h2⟩
      exact SqT.of h1
    · rintro i v H' hi ⟨g, h1, h2⟩
      obtain ⟨b, hb1, q, rfl, hbd⟩ := hb.get' hi
      obtain ⟨okb, hdb, hszb⟩ := hbs b (List.mem_of_getElem? hb1)
      have hi2 := (List.getElem?_eq_some_iff.mp hi).1
      refine ⟨rfl, _, rfl, _, rfl, _, rfl, _, _, rfl, rfl, _, rfl, c, r, d + 1, q, b, rfl, hbd.mono (Same.tups g), okb, hc, by omega, by omega, hszb, fun H1 g1 => ⟨_, g1.at_ h2, ?_, ?_⟩⟩
      · rw [List.length_map, List.length_map, List.length_take]; exact szlt (by omega)
      · refine ⟨Same.mut (g.trans g1) nD, ?_, ?_⟩
        · have : p2 ≠ D := ne_of (g1.at_ h1) (g1.at_ h2) (by intro z; cases z)
          rw [upd_ne this]; exact g1.at_ h1
        · rw [upd_same, List.take_add_one, hb1, List.map_append, List.map_append]; rfl
    · rintro H' ⟨g, h1, h2⟩
      rw [ql, List.take_length] at h2
      refine ⟨_, rfl, D, _, rfl, .inl (SqL.of h2), rfl, flat_ints _, _, rfl, itF (inv_non _) ?_⟩
      refine ⟨_, rfl, D, _, rfl, SqL.of h2, _, _, rfl, rfl, ?_⟩
      have e9 : (1 : Int) + (bs.map fun b => (szB b : Int)).sum = (szS st : Int) := by
        rw [hsz]
        have : ∀ l : List (List Stm), (l.map fun b => (szB b : Int)).sum = (((l.map szB).sum : Nat) : Int) := by
          intro l
          induction l with
          | nil => rfl
          | cons x r ih => rw [List.map_cons, List.map_cons, List.sum_cons, List.sum_cons, ih]; omega
        rw [this]; omega
      have := qq _ g
      rw [← e9] at this
      exact this
theorem ok_body_size1 (T : Facts w K mg) (n : Nat) (G_statement_size : OkF P w K mg base CX0 (6 + 2 * n) "statement_size" ["cells", "routines", "deep", "thing"] (spStSz n)) : OkF P w K mg base CX0 (5 + 2 * (n + 1)) "body_size" ["cells", "routines", "deep", "thing"] (spBdSz (n + 1)) := by
  have e6 : 5 + 2 * (n + 1) = (6 + 2 * n) + 1 := by omega
  rw [e6]
  refine T.d_body_size.ok sc_body_size bb_body_size (fun vs H Q E h => ?_) (fun f cdv A outer s H vs Q E hr h => ?_)
  · obtain ⟨c, r, d, v, st, rfl, _⟩ := h; rfl
  obtain ⟨c, r, d, q, b, rfl, hb, ok, hc, hd, hn, hz, qq⟩ := h
  obtain ⟨vs, hq, hv⟩ := hb.all
  refine ⟨_, (pss_cons (ps_if (PW.pt (pw_or (pt_cmpR op_gt (pv 2) (pe_gi T.c_MOST_DEEP) (nomark _)) (pw_or1 (pt_not (pt_val (pe_callB call_isi (by rfl) T.b_isinstance bv_isinstance (pa_cons (pv 3) (pa_cons (pe_bty T.b_tuple bv_tuple) pa_nil)))))))) (pss_one (ps_ret pe_non)) pss_nil)
      (pss_cons (ps_set (i := 4) sc_body_size.nd rfl (Or.inl rfl) pe_int)
      (pss_cons (ps_for PassesOwn.never rfl (pi_tup (pv 3)) (pg_name (i := 5) sc_body_size.nd rfl (Or.inl rfl)) (pss_cons (ps_set (i := 6) sc_body_size.nd rfl (Or.inl rfl) (pe_cal G_statement_size (hr.mono (by first | decide | omega)) (pa_cons (pv 0) (pa_cons (pv 1) (pa_cons (pv 2) (pa_cons (pv 5) pa_nil))))))
      (pss_cons (ps_if (pt_cmpR op_isN (pv 6) pe_non (nomark _)) (pss_one (ps_ret pe_non)) pss_nil)
      (pss_one (ps_aug (i := 4) sc_body_size.nd rfl (Or.inl rfl) (pv 6) ip_add)))))
      (pss_one (ps_ret (pv 4)))))), ?_⟩
  have hk : KTy H (.ref q) "tuple" := .tup hq
  refine ⟨_, rfl, _, _, rfl, rfl, _, rfl, itF (decide_eq_false (by omega)) ?_⟩
  refine ⟨_, rfl, _, _, _, _, _, rfl, .ty _, hk.tyX, hk.ktup, _, rfl, itF rfl ?_⟩
  refine ⟨_, rfl, q, rfl, ⟨vs, SqT.of hq⟩, ?_⟩
  refine for_tup (xs := vs) (fun i σ H' => (∃ x y, σ = [some (.int c), some (.int r), some (.int d), some (.ref q), some (.int (szB (b.take i) : Int)), x, y]) ∧ Same H H') ⟨⟨none, none, rfl⟩, Same.refl'⟩ ?_ ?_ ?_
  · rintro i σ H' hi ⟨_, g⟩
    exact SqT.of (g.at_ hq)
  · rintro i v σ H' hi ⟨⟨x, y, rfl⟩, g⟩
    obtain ⟨st, hs, ha⟩ := hv.get' hi
    have hm := List.mem_of_getElem? hs
    have oks := OkB_mem ok st hm
    have hdp := dpB_mem hm
    have hszs : szB (b.take i) + szS st = szB (b.take (i + 1)) := by
      rw [List.take_add_one, hs, szB_append]
      show _ = _ + szB [st]
      rw [szB, szB, Nat.add_zero]
    have hle : szB (b.take (i + 1)) ≤ szB b := by
      have := szB_append (b.take (i + 1)) (b.drop (i + 1))
      rw [List.take_append_drop] at this
      omega
    refine ⟨_, rfl, _, rfl, _, rfl, _, rfl, _, _, _, _, _, rfl, StA.mono (Same.tups g) _ _ ha, oks, hc, by omega, by omega, by omega, fun H1 g1 => ?_⟩
    refine ⟨_, rfl, rfl, _, rfl, itF (decide_eq_false (by intro z; cases z)) ?_⟩
    have e9 : (szB (b.take i) : Int) + (szS st : Int) = (szB (b.take (i + 1)) : Int) := by omega
    exact ⟨_, rfl, _, rfl, _, _, rfl, rfl, ⟨some v, some (.int (szS st : Int)), by rw [← e9]; rfl⟩, g.trans g1⟩
  · rintro σ H' ⟨⟨x, y, rfl⟩, g⟩
    refine ⟨_, rfl, ?_⟩
    have := hv.len
    rw [this, List.take_length]
    exact qq _ g
theorem ok_body_size (T : Facts w K mg) : ∀ n : Nat, OkF P w K mg base CX0 (5 + 2 * n) "body_size" ["cells", "routines", "deep", "thing"] (spBdSz n)
  | 0 => T.d_body_size.none (N := []) bb_body_size fun vs H Q E h => by
    obtain ⟨c, r, d, q, b, rfl, hb, ok, hc, hd, hn, hz, qq⟩ := h
    omega
  | n + 1 => ok_body_size1 T n (ok_statement_size T n (ok_body_size T n))
def spWrong : Sp := fun vs H Q _ => ∃ (c : Nat) (p : Addr) (rs : List (List Stm)), vs = [.int (c : Int), .ref p] ∧ RtsA H p rs ∧ 1 ≤ c ∧ c ≤ 5 ∧ 1 ≤ rs.length ∧ rs.length ≤ 5 ∧ (∀ b ∈ rs, OkB c rs.length b ∧ dpB b ≤ 4 ∧ szB b ≤ 60) ∧ ∀ H', Same H H' → Q .non H'
theorem ok_wrong_part (T : Facts w K mg) : OkF P w K mg base CX0 16 "wrong_part" ["cells", "routines"] spWrong := by
  have G_is_integer := ok_is_integer (P := P) (base := base) T
  have G_body_size := ok_body_size (P := P) (base := base) T 5
  refine T.d_wrong_part.ok sc_wrong_part bb_wrong_part (fun vs H Q E h => ?_) (fun f cdv A outer s H vs Q E hr h => ?_)
  · obtain ⟨c, p, rs, rfl, _⟩ := h; rfl
  obtain ⟨c, p, rs, rfl, ⟨vs, hp, hv⟩, c1, c5, r1, r5, hrs, qq⟩ := h
  refine ⟨_, (pss_cons (ps_if (PW.pt (pw_or (pt_not (pt_val (pe_cal G_is_integer (hr.mono (by first | decide | omega)) (pa_cons (pv 0) pa_nil)))) (pw_or1 (pt_not (pt_chain op_le op_le pe_int (pv 0) (pe_gi T.c_MOST_CELLS)))))) (pss_one (ps_ret (pe_tup (pa_cons pe_str pa_nil)))) pss_nil)
      (pss_cons (ps_if (PW.pt (pw_or (pt_not (pt_val (pe_callB call_isi (by rfl) T.b_isinstance bv_isinstance (pa_cons (pv 1) (pa_cons (pe_bty T.b_tuple bv_tuple) pa_nil))))) (pw_or1 (pt_not (pt_chain op_le op_le pe_int (pe_callB call_len_seq (by rfl) T.b_len PySem.boot_len (pa_cons (pv 1) pa_nil)) (pe_gi T.c_MOST_ROUTINES)))))) (pss_one (ps_ret (pe_tup (pa_cons pe_str pa_nil)))) pss_nil)
      (pss_cons (ps_for PassesOwn.never rfl (pi_enumT (by rfl) T.b_enumerate (pa_cons (pv 1) pa_nil)) (pg_tup rfl (pgs_cons (pg_name (i := 2) sc_wrong_part.nd rfl (Or.inl rfl)) (pgs_cons (pg_name (i := 3) sc_wrong_part.nd rfl (Or.inl rfl)) pgs_nil))) (pss_cons (ps_set (i := 4) sc_wrong_part.nd rfl (Or.inl rfl) (pe_cal G_body_size (hr.mono (by first | decide | omega)) (pa_cons (pv 0) (pa_cons (pe_callB call_len_seq (by rfl) T.b_len PySem.boot_len (pa_cons (pv 1) pa_nil)) (pa_cons pe_int (pa_cons (pv 3) pa_nil))))))
      (pss_one (ps_if (PW.pt (pw_or (pt_cmpR op_isN (pv 4) pe_non (nomark _)) (pw_or1 (pt_cmpR op_gt (pv 4) (pe_gi T.c_MOST_STATEMENTS) (nomark _))))) (pss_one (ps_ret (pe_tup (pa_cons pe_str (pa_cons (pv 2) pa_nil))))) pss_nil))))
      (pss_one (ps_ret pe_non))))), ?_⟩
  have ql := hv.len
  have hk : KTy H (.ref p) "tuple" := .tup hp
  refine ⟨_, rfl, _, _, rfl, .int _, _, rfl, itF rfl ?_⟩
  refine ⟨_, rfl, _, _, rfl, rfl, _, rfl, itT (decide_eq_true (by omega)) ⟨_, _, rfl, rfl, _, rfl, itF ?_ ?_⟩⟩
  · show (!decide ((c : Int) ≤ 5)) = false
    rw [decide_eq_true (by omega)]; rfl
  refine ⟨_, rfl, _, _, _, _, _, rfl, .ty _, hk.tyX, hk.ktup, _, rfl, itF rfl ?_⟩
  refine ⟨_, rfl, p, _, rfl, .inr (SqT.of hp), _, _, rfl, rfl, _, rfl, itT (decide_eq_true (by omega)) ⟨_, _, rfl, rfl, _, rfl, itF ?_ ?_⟩⟩
  · show (!decide ((vs.length : Int) ≤ 5)) = false
    rw [decide_eq_true (by omega)]; rfl
  refine ⟨_, rfl, p, _, rfl, SqT.of hp, ?_⟩
  refine for_it (walk_enumT (xs := vs)) (fun i σ H' => (∃ x y z, σ = [some (.int c), some (.ref p), x, y, z]) ∧ Same H H') ⟨⟨none, none, none, rfl⟩, Same.refl'⟩ ?_ ?_ ?_
  · rintro i σ H' hi ⟨_, g⟩
    exact SqT.of (g.at_ hp)
  · rintro i v σ H' H2 hi ⟨⟨x, y, z, rfl⟩, g⟩ ⟨t, k, v2, rfl, ht, rfl, e1, e2⟩
    cases e1
    obtain ⟨b, hb1, q, rfl, hbd⟩ := hv.get' e2
    obtain ⟨okb, hdb, hszb⟩ := hrs b (List.mem_of_getElem? hb1)
    refine ⟨_, _, rfl, SqT.of upd_same, rfl, _, _, rfl, _, _, rfl, rfl, ?_⟩
    have g2 : Same H (upd H' t (.tup [V.int (i : Nat), V.ref q])) := Same.then_ g ht
    refine ⟨_, rfl, _, rfl, p, _, rfl, .inr (SqT.of (g2.at_ hp)), _, rfl, c, rs.length, 1, q, b, ?_, hbd.mono (Same.tups g2), okb, c5, by omega, by omega, by omega, fun H1 g1 => ?_⟩
    · rw [ql]; rfl
    refine ⟨_, rfl, rfl, _, rfl, itF (decide_eq_false (by intro z; cases z)) ?_⟩
    exact ⟨_, rfl, _, _, rfl, rfl, _, rfl, itF (decide_eq_false (by omega)) ⟨⟨_, _, _, rfl⟩, g2.trans g1⟩⟩
  · rintro σ H' ⟨⟨x, y, z, rfl⟩, g⟩
    exact qq _ g
def spScene (K : PySem.W.Frag) : Sp := fun vs H Q _ => ∃ (o dx : Addr) (c : Nat) (p : Addr) (rs : List (List Stm)), vs = [.ref o, .int (c : Int), .ref p] ∧ H o = some (.ins (ga K "Scene") dx []) ∧ RtsA H p rs ∧ 1 ≤ c ∧ c ≤ 5 ∧ 1 ≤ rs.length ∧ rs.length ≤ 5 ∧ (∀ b ∈ rs, OkB c rs.length b ∧ dpB b ≤ 4 ∧ szB b ≤ 60) ∧
  ∀ H1, Same H H1 → Q .non (upd (upd H1 o (.ins (ga K "Scene") dx [("cells", .int (c : Int))])) o (.ins (ga K "Scene") dx (fScn (.int (c : Int)) (.ref p))))
theorem ok_Scene_init (T : Facts w K mg) : OkM P w K mg base CX0 17 (ga K "Scene") "__init__" ["self", "cells", "routines"] (spScene K) := by
  have G_wrong_part := ok_wrong_part (P := P) (base := base) T
  refine T.d_Scene___init__.ok sc_Scene___init__ bb_Scene___init__ (fun vs H Q E h => ?_) (fun f cdv A outer s H vs Q E hr h => ?_)
  · obtain ⟨o, dx, c, p, rs, rfl, _⟩ := h; rfl
  obtain ⟨o, dx, c, p, rs, rfl, ho, hp, c1, c5, r1, r5, hrs, qq⟩ := h
  refine ⟨_, (pss_cons (ps_set (i := 3) sc_Scene___init__.nd rfl (Or.inl rfl) (pe_cal G_wrong_part (hr.mono (by first | decide | omega)) (pa_cons (pv 1) (pa_cons (pv 2) pa_nil))))
      (pss_cons (ps_if (pt_cmpR op_notN (pv 3) pe_non (nomark _)) (pss_one ps_never) pss_nil)
      (pss_cons (ps_fld (pv 0) (pv 1) rfl)
      (pss_one (ps_fld (pv 0) (pv 2) rfl))))), ?_⟩
  refine ⟨_, rfl, _, rfl, c, p, rs, rfl, hp, c1, c5, r1, r5, hrs, fun H1 g => ?_⟩
  refine ⟨_, rfl, rfl, _, rfl, itF rfl ?_⟩
  refine ⟨_, rfl, _, rfl, o, _, dx, _, rfl, g.at_ ho, T.cl_Scene, T.na_Scene_cells, (by decide), ?_⟩
  refine ⟨_, rfl, _, rfl, o, _, dx, _, rfl, upd_same, T.cl_Scene, T.na_Scene_routines, (by show 1 < 1000; decide), ?_⟩
  have := qq H1 g
  rw [← fScn_put] at this
  exact this
end
end K34

set_option Elab.async false
set_option linter.all false
set_option maxRecDepth 100000
set_option maxHeartbeats 4000000
/-! K5: tuple rules whose result is told by its content; the loop; more mathematics of the step. -/
namespace K34
open PySem PySem.Spec PyProof.Rows L2
open He (ga ma)
section
variable {X : Cx}
def rCatU : R2 := fun x y H Q => ∃ a b xs ys, x = .ref a ∧ y = .ref b ∧ H a = some (.tup xs) ∧ H b = some (.tup ys) ∧ xs.length + ys.length ≤ 100000 ∧ ∀ p H', Same H H' → H' p = some (.tup (xs ++ ys)) → Q (.ref p) H'
theorem op_catU : OpR X (binaryOp .Add) rCatU := by
  intro pins s σ H x y v u Q I rx ry h
  obtain ⟨a, b, xs, ys, e1, e2, ha, hb, hl, q⟩ := h
  refine op_catA pins s σ H x y v u Q I rx ry ⟨a, b, xs, ys, e1, e2, SqT.of ha, SqT.of hb, sz hl, fun e => ?_, fun _ e => ?_, fun _ _ p hp => ?_⟩
  · subst e; exact q b H Same.refl' hb
  · subst e; exact q a H Same.refl' (by rw [List.append_nil]; exact ha)
  · exact q p _ (Same.new hp) upd_same
def rSlU : V → Option Int → Option Int → Hp → VK → Prop := fun x lo hi H Q => ∃ a xs, x = .ref a ∧ H a = some (.tup xs) ∧ ∀ p H', Same H H' → H' p = some (.tup (cutV xs lo hi)) → Q (.ref p) H'
theorem sl_tupU : SlR X rSlU := by
  intro pins s σ H x v vl vu lo hi sl Q I rx hs pl pu h
  obtain ⟨a, xs, e, hx, q⟩ := h
  refine sl_tupA pins s σ H x v vl vu lo hi sl Q I rx hs pl pu ⟨a, xs, e, SqT.of hx, fun hw => ?_, fun _ p hp => q p _ (Same.new hp) upd_same⟩
  refine q a H Same.refl' ?_
  have e2 : cutV xs lo hi = xs := by
    unfold cutV
    rw [hw.1, hw.2, List.drop_zero, Nat.sub_zero, List.take_length]
  rw [e2]; exact hx
def rRepU : R2 := fun x y H Q => ∃ l k v, x = .ref l ∧ y = .int k ∧ H l = some (.tup [v]) ∧ 1 ≤ k ∧ k ≤ 1000 ∧ ∀ p H', Same H H' → H' p = some (.tup (List.replicate k.toNat v)) → Q (.ref p) H'
theorem rep_flat {α : Type} (v : α) : ∀ n, (List.replicate n [v]).flatten = List.replicate n v
  | 0 => rfl
  | n + 1 => by rw [List.replicate_succ, List.flatten_cons, rep_flat v n]; rfl
theorem op_repU : OpR X (binaryOp .Mult) rRepU := by
  intro pins s σ H x y v u Q I rx ry h
  obtain ⟨l, k, v', e1, e2, hl, k1, k2, q⟩ := h
  refine op_repA pins s σ H x y v u Q I rx ry ⟨l, k, [v'], e1, e2, SqT.of hl, by simp, k1, k2, by simp, fun e => ?_, fun _ p hp => ?_⟩
  · subst e; exact q l H Same.refl' hl
  · refine q p _ (Same.new hp) ?_
    rw [upd_same, rep_flat]
end
/-- while, by a word over a number that falls -/
theorem while_m {c : TT} {tb : TS} {D : Ends} {σ : L2.St} {H : Hp} (Pv : Nat → L2.St → Hp → Prop) (m0 : Nat) (h0 : Pv m0 σ H)
    (hs : ∀ m σ H, Pv m σ H → c σ H fun b H1 => if b = true then ∃ N : L2.St → Hp → Prop, (∀ σ' H', N σ' H' → ∃ m', m' < m ∧ Pv m' σ' H') ∧ tb { D with nx := N, ct := N, bk := D.nx } σ H1 else D.nx σ H1) : tWhile c tb D σ H :=
  ⟨Pv, ⟨m0, h0⟩, hs⟩
/-! ### places and cuts -/
theorem at_last {xs : List V} {v : V} {n : Int} (e : n = -1) : atI (xs ++ [v]) n = some v := by rw [e]; exact atI_last xs v
theorem at_sum {s : Sm} (h : s ≠ []) {n : Int} (e : n = -1) : atI (s.map V.int) n = some (.int (s.getLastD 0)) := by
  obtain ⟨r, x, rfl⟩ : ∃ r x, s = r ++ [x] := ⟨_, _, (List.dropLast_concat_getLast h).symm⟩
  rw [List.map_append, List.getLastD_concat]
  exact at_last e
theorem at_ix {xs : List V} {i : Nat} {n : Int} {v : V} (e : n = (i : Int)) (h : xs[i]? = some v) : atI xs n = some v := by rw [e]; exact atI_nat h
theorem cut_init {xs : List V} {v : V} {n : Int} (e : n = -1) : cutV (xs ++ [v]) none (some n) = xs := by
  subst e
  unfold cutV
  have e1 : HT.sIx (xs ++ [v]).length 0 none = 0 := rfl
  have e2 : HT.sIx (xs ++ [v]).length (xs ++ [v]).length (some (-1)) = xs.length := by
    show (if (-1 : Int) < 0 then ((-1 : Int) + ((xs ++ [v]).length : Int)).toNat else min (-1 : Int).toNat (xs ++ [v]).length) = _
    rw [if_pos (by decide), List.length_append, List.length_singleton]
    omega
  rw [e1, e2, List.drop_zero, Nat.sub_zero, List.take_left]
theorem cut_to {xs : List V} {k : Nat} (h : k ≤ xs.length) : cutV xs none (some (k : Int)) = xs.take k := by
  unfold cutV
  have e2 : HT.sIx xs.length xs.length (some (k : Int)) = k := by
    show (if (k : Int) < 0 then ((k : Int) + (xs.length : Int)).toNat else min (k : Int).toNat xs.length) = k
    rw [if_neg (by omega)]
    omega
  rw [e2]
  show List.take (k - 0) (xs.drop 0) = _
  rw [Nat.sub_zero, List.drop_zero]
theorem cut_from {xs : List V} {k : Nat} (h : k ≤ xs.length) {n : Int} (e : n = (k : Int)) : cutV xs (some n) none = xs.drop k := by
  subst e
  unfold cutV
  have e2 : HT.sIx xs.length 0 (some (k : Int)) = k := by
    show (if (k : Int) < 0 then ((k : Int) + (xs.length : Int)).toNat else min (k : Int).toNat xs.length) = k
    rw [if_neg (by omega)]
    omega
  rw [e2]
  show List.take (xs.length - k) (xs.drop k) = _
  rw [← List.length_drop, List.take_length]
theorem set_cut {xs : List V} {k : Nat} {v : V} (h : k < xs.length) : xs.take k ++ [v] ++ xs.drop (k + 1) = xs.set k v := by
  rw [List.append_assoc, List.set_eq_take_append_cons_drop, if_pos h]; rfl
/-! ### a sum's products -/
theorem dot_nil {s : List Int} : dot s [] = 0 := by cases s <;> rfl
theorem dot_zip : ∀ (s h : List Int), (List.zipWith (· * ·) s h).sum = dot s h
  | [], _ => by rw [List.zipWith_nil_left]; rfl
  | _ :: _, [] => by rw [List.zipWith_nil_right]; rfl
  | x :: xs, y :: ys => by rw [List.zipWith_cons_cons, List.sum_cons, dot_zip xs ys]; rfl
/-! ### the step -/
/-- the open routines behind a statement, before they are settled -/
def unsP (rs : List (List Stm)) (o : Opn) (held : List Int) : Opn :=
  match o with
  | (n, (b, p) :: lv) :: rest => match b[p]? with
    | some (.call r) => (r, [(rs.getD r [], 0)]) :: (n, (b, p) :: lv) :: rest
    | some (.ite t y m) => (n, (if holds t held then y else m, 0) :: (b, p) :: lv) :: rest
    | some (.whl t d) => if holds t held then (n, (d, 0) :: (b, p) :: lv) :: rest else (n, (b, p + 1) :: lv) :: rest
    | _ => (n, (b, p + 1) :: lv) :: rest
  | _ => o
/-- the law's stack behind it -/
def lstP (q : Nat) (n : Nat) (ls : List (Nat × Nat)) (s : Stm) (held : List Int) : List (Nat × Nat) := match s with
  | .call r => (r, 0) :: (n, q + 1) :: ls
  | .ite t y _ => (n, if holds t held then q + 1 else q + 1 + (flatB (q + 1) y).length + 1) :: ls
  | .whl t d => (n, if holds t held then q + 1 else q + 1 + (flatB (q + 1) d).length + 1) :: ls
  | _ => (n, q + 1) :: ls
theorem next_ex {o : Opn} {s : Stm} (h : nextP o = some s) : ∃ n b p lv rest, o = (n, (b, p) :: lv) :: rest ∧ b[p]? = some s := by
  unfold nextP at h
  split at h
  · exact ⟨_, _, _, _, _, rfl, h⟩
  · cases h
theorem walked_uns {rs : List (List Stm)} {o : Opn} {held : List Int} {s : Stm} (h : nextP o = some s) : walkedP rs o held = settledP (unsP rs o held) := by
  obtain ⟨n, b, p, lv, rest, rfl, e⟩ := next_ex h
  unfold walkedP unsP
  dsimp only
  rw [e]
  cases s with
  | whl t d => dsimp only; split <;> rfl
  | _ => rfl
theorem Sim.uns {rs : List (List Stm)} {cells : Nat} {n q : Nat} {ls : List (Nat × Nat)} {o : Opn} {held : List Int} {s : Stm} (S : Sim rs o ((n, q) :: ls)) (h : nextP o = some s) (ok : OkS cells rs.length s) :
    Sim rs (unsP rs o held) (lstP q n ls s held) := by
  obtain ⟨n', b, p, lv, rest, rfl, e⟩ := next_ex h
  cases S with
  | cons hn a w =>
    cases s with
    | call r =>
      rw [OkS] at ok
      have en := a.next e
      rw [flatS] at en
      unfold unsP lstP
      dsimp only
      rw [e]
      exact .cons ok At.first (.cons ⟨rfl, hn, b, p, lv, rfl, ⟨r, e⟩, en⟩ w)
    | ite t y m =>
      unfold unsP lstP
      dsimp only
      rw [e]
      dsimp only
      split
      · exact .cons hn (a.yes e) w
      · exact .cons hn (a.no e) w
    | whl t d =>
      have en := a.next e
      rw [flatS] at en
      unfold unsP lstP
      dsimp only
      rw [e]
      dsimp only
      split
      · exact .cons hn (a.whl e) w
      · have e2 : q + 1 + (flatB (q + 1) d).length + 1 = q + (Itm.test t (q + 1 + (flatB (q + 1) d).length + 1) :: (flatB (q + 1) d ++ [.go q])).length := by
          rw [List.length_cons, List.length_append, List.length_singleton]; omega
        rw [e2]
        exact .cons hn en w
    | set c z =>
      have en := a.next e
      rw [flatS] at en
      unfold unsP lstP
      dsimp only
      rw [e]
      exact .cons hn en w
    | put x y z =>
      have en := a.next e
      rw [flatS] at en
      unfold unsP lstP
      dsimp only
      rw [e]
      exact .cons hn en w
    | ask c wd z =>
      have en := a.next e
      rw [flatS] at en
      unfold unsP lstP
      dsimp only
      rw [e]
      exact .cons hn en w
theorem uns_len {rs : List (List Stm)} {o : Opn} {held : List Int} {s : Stm} (h : nextP o = some s) : (unsP rs o held).length = o.length + (match s with | .call _ => 1 | _ => 0) := by
  obtain ⟨n', b, p, lv, rest, rfl, e⟩ := next_ex h
  unfold unsP
  dsimp only
  rw [e]
  cases s with
  | whl t d => dsimp only; split <;> rfl
  | _ => rfl
/-- the statement that is next is a right one -/
theorem Sim.ok {rs : List (List Stm)} {cells : Nat} {l : List (Nat × Nat)} {o : Opn} {s : Stm} (S : Sim rs o l) (h : nextP o = some s) (hr : ∀ b ∈ rs, OkB cells rs.length b) : OkS cells rs.length s := by
  obtain ⟨n', b, p, lv, rest, rfl, e⟩ := next_ex h
  cases S with
  | cons hn a w =>
    obtain ⟨b', p', r', k, eq, hp, L, hq⟩ := a
    have hB : OkB cells rs.length (rs.getD n' []) := hr _ (by
      rw [List.getD_eq_getElem?_getD, List.getElem?_eq_getElem hn]; exact List.getElem_mem hn)
    have := (L.ok hB b' p' r' eq).1
    injection eq with e1 e2
    injection e1 with e1 e3
    subst e1 e3
    exact OkB_mem this s (List.mem_of_getElem? e)
/-- few levels -/
theorem At.few {B : List Stm} {lv : List Lev} {q : Nat} (a : At B lv q) {cells rts : Nat} (hB : OkB cells rts B) (hd : dpB B ≤ 4) : lv.length ≤ 5 := by
  obtain ⟨b', p', r', k, eq, hp, L, hq⟩ := a
  have := (L.ok hB b' p' r' eq).2
  rw [eq, List.length_cons]
  omega
/-- a right scene's routines -/
structure OkR (cells : Nat) (rs : List (List Stm)) : Prop where
  ok : ∀ b ∈ rs, OkB cells rs.length b
  dp : ∀ b ∈ rs, dpB b ≤ 4
  sz : ∀ b ∈ rs, szB b ≤ 60
  n1 : 1 ≤ rs.length
  n5 : rs.length ≤ 5
theorem OkR.at_ {cells : Nat} {rs : List (List Stm)} (h : OkR cells rs) {n : Nat} (hn : n < rs.length) : rs.getD n [] ∈ rs := by
  rw [List.getD_eq_getElem?_getD, List.getElem?_eq_getElem hn]; exact List.getElem_mem hn
/-- levels' lengths: all routines that are open -/
def FewL (o : Opn) : Prop := ∀ r ∈ o, r.2.length ≤ 5
theorem Waits.fewL {cells : Nat} {rs : List (List Stm)} {o : Opn} {l : List (Nat × Nat)} (R : OkR cells rs) (h : Waits rs o l) : FewL o := by
  induction h with
  | nil => intro r m; cases m
  | cons a _ ih =>
    intro r m
    rcases List.mem_cons.mp m with e | m
    · subst e
      obtain ⟨e1, e2, b, p, r', e3, _, a⟩ := a
      have := a.few (R.ok _ (R.at_ e2)) (R.dp _ (R.at_ e2))
      rw [e3]; exact this
    · exact ih r m
theorem Sim.fewL {cells : Nat} {rs : List (List Stm)} {o : Opn} {l : List (Nat × Nat)} (R : OkR cells rs) (h : Sim rs o l) : FewL o := by
  cases h with
  | nil => intro r m; cases m
  | cons hn a w =>
    intro r m
    rcases List.mem_cons.mp m with e | m
    · subst e
      exact a.few (R.ok _ (R.at_ hn)) (R.dp _ (R.at_ hn))
    · exact w.fewL R r m
theorem Waits.ok {rs : List (List Stm)} {o : Rou} {os : Opn} {l : List (Nat × Nat)} (h : Waits rs (o :: os) l) : ∃ n q ls, l = (n, q) :: ls ∧ Sim rs ((o.1, onw o.2) :: os) l := by
  cases h with
  | cons a w =>
    obtain ⟨e1, e2, b, p, r', e3, _, a⟩ := a
    refine ⟨_, _, _, rfl, ?_⟩
    rw [e3, e1]
    exact .cons e2 a w
/-- levels below the innermost stand at a statement -/
theorem Lay.under {B : List Stm} {b b2 : List Stm} {p p2 : Nat} {lv : List Lev} {k : Nat} (h : Lay B ((b, p) :: (b2, p2) :: lv) k) : ∃ s, b2[p2]? = some s := by
  cases h with
  | yes p a e => exact ⟨_, e⟩
  | no p a e => exact ⟨_, e⟩
  | whl p a e => exact ⟨_, e⟩
/-- a step keeps what stands -/
theorem Good.step {rs : List (List Stm)} {cells many : Nat} {zs : List (Int × Int)} {st : PSt} (R : OkR cells rs) (g : Good rs cells many st) (hw : wordP many st = .runs) : Good rs cells many (behindP rs zs st) := by
  obtain ⟨l, S⟩ := g.sim
  have hne : st.op.length ≠ 0 := by
    intro z
    unfold wordP at hw
    rw [if_pos z] at hw
    cases hw
  have hd : doneP many st = true := by
    unfold wordP at hw
    rw [if_neg hne] at hw
    by_cases c : doneP many st = true
    · exact c
    · rw [if_neg c] at hw; cases hw
  rcases g.set_ with e | ⟨s, hs⟩
  · rw [e] at hne; exact absurd rfl hne
  · obtain ⟨n, b, p, lv, rest, eo, e⟩ := next_ex hs
    have ok := S.ok hs R.ok
    have hl : (unsP rs st.op st.held).length ≤ 20 := by
      rw [uns_len hs]
      have := g.few
      cases s with
      | call r =>
        unfold doneP at hd
        rw [hs] at hd
        have := of_decide_eq_true hd
        show st.op.length + 1 ≤ 20
        omega
      | _ => exact this
    rw [eo] at S
    cases S with
    | @cons _ _ q _ ls hn a w =>
      have S2 : Sim rs st.op ((n, q) :: ls) := by rw [eo]; exact .cons hn a w
      have U := S2.uns (held := st.held) hs ok
      obtain ⟨l', h1, h2, h3⟩ := settled_set _ (Nat.le_refl _) U
      have ew : (behindP rs zs st).op = settledP (unsP rs st.op st.held) := walked_uns hs
      refine ⟨by rw [ew]; exact h2, by rw [ew]; omega, ?_, ?_, l', by rw [ew]; exact h1⟩
      · have : (behindP rs zs st).held.length = st.held.length := by
          unfold behindP
          dsimp only
          rw [hs]
          cases s <;> first | rfl | exact List.length_set ..
        rw [this]; exact g.held
      · have : (behindP rs zs st).pos.length = st.pos.length := by
          unfold behindP
          dsimp only
          rw [hs]
          cases s <;> first | rfl | exact List.length_set ..
        rw [this]; exact g.pos
end K34

set_option Elab.async false
set_option linter.all false
set_option maxRecDepth 100000
set_option maxHeartbeats 4000000
/-! D3: what running computes. -/
namespace K34
open PySem PySem.Spec PyProof.Rows L2
open He (ga ma)
def spVal : Sp := fun vs H Q _ => ∃ (v u : V) (s : Sm) (hd : List Int), vs = [v, u] ∧ SmA H v s ∧ SmA H u hd ∧ s.length = hd.length + 1 ∧ hd.length ≤ 5 ∧ (∀ z ∈ s, -1000 ≤ z ∧ z ≤ 1000) ∧ ∀ H', Same H H' → Q (.int (val s hd)) H'
def spHold : Sp := fun vs H Q _ => ∃ (v u : V) (t : Tst) (hd : List Int), vs = [v, u] ∧ TsA H v t ∧ SmA H u hd ∧ OkT hd.length t ∧ hd.length ≤ 5 ∧ ∀ H', Same H H' → Q (.bl (holds t hd)) H'
def spOnw : Sp := fun vs H Q _ => ∃ (p : Addr) (b : List Stm) (k : Nat) (r : List Lev), vs = [.ref p] ∧ LvsA H p ((b, k) :: r) ∧ r.length ≤ 10 ∧ ∀ p' H', Same H H' → LvsA H' p' ((b, k + 1) :: r) → Q (.ref p') H'
def spNext : Sp := fun vs H Q _ => ∃ (p : Addr) (o : Opn) (s : Stm), vs = [.ref p] ∧ OpnA H p o ∧ nextP o = some s ∧ ∀ v, StA H s v → Q v H
def spSet : Sp := fun vs H Q _ => ∃ (cells : Nat) (rs : List (List Stm)) (p : Addr) (o : Opn) (l : List (Nat × Nat)), vs = [.ref p] ∧ OpnA H p o ∧ Sim rs o l ∧ OkR cells rs ∧ o.length ≤ 30 ∧ ∀ p' H', Same H H' → OpnA H' p' (settledP o) → Q (.ref p') H'
theorem LvsA.head {H : Hp} {p : Addr} {b : List Stm} {k : Nat} {r : List Lev} (h : LvsA H p ((b, k) :: r)) : ∃ (vs : List V) (a bo : Addr), H p = some (.tup (vs.reverse ++ [.ref a])) ∧ H a = some (.tup [.ref bo, .int (k : Int)]) ∧ BdA H bo b ∧ All2 (LevA H) vs r := by
  obtain ⟨vs, e, x⟩ := h
  cases x with
  | cons y x =>
    obtain ⟨a, bo, rfl, e2, z⟩ := y
    rw [List.reverse_cons] at e
    exact ⟨_, a, bo, e, e2, z, x⟩
theorem LvsA.of {H : Hp} {p : Addr} {b : List Stm} {k : Nat} {r : List Lev} {vs : List V} {a bo : Addr} (e : H p = some (.tup (vs.reverse ++ [.ref a]))) (e2 : H a = some (.tup [.ref bo, .int (k : Int)])) (z : BdA H bo b) (x : All2 (LevA H) vs r) : LvsA H p ((b, k) :: r) :=
  ⟨.ref a :: vs, by rw [List.reverse_cons]; exact e, .cons ⟨a, bo, rfl, e2, z⟩ x⟩
theorem OpnA.head {H : Hp} {p : Addr} {n : Nat} {l : List Lev} {r : Opn} (h : OpnA H p ((n, l) :: r)) : ∃ (vs : List V) (a q : Addr), H p = some (.tup (vs.reverse ++ [.ref a])) ∧ H a = some (.tup [.int (n : Int), .ref q]) ∧ LvsA H q l ∧ All2 (RouA H) vs r := by
  obtain ⟨vs, e, x⟩ := h
  cases x with
  | cons y x =>
    obtain ⟨a, q, rfl, e2, z⟩ := y
    rw [List.reverse_cons] at e
    exact ⟨_, a, q, e, e2, z, x⟩
theorem OpnA.of {H : Hp} {p : Addr} {n : Nat} {l : List Lev} {r : Opn} {vs : List V} {a q : Addr} (e : H p = some (.tup (vs.reverse ++ [.ref a]))) (e2 : H a = some (.tup [.int (n : Int), .ref q])) (z : LvsA H q l) (x : All2 (RouA H) vs r) : OpnA H p ((n, l) :: r) :=
  ⟨.ref a :: vs, by rw [List.reverse_cons]; exact e, .cons ⟨a, q, rfl, e2, z⟩ x⟩
section
variable {P : Program} {w : World} {K : PySem.W.Frag} {mg : Str → Option Value} {base : Heap}
theorem ok_value_of (T : Facts w K mg) : OkF P w K mg base CX0 1 "value_of" ["summed", "held"] spVal := by
  refine T.d_value_of.ok sc_value_of bb_value_of (fun vs H Q E h => ?_) (fun f cdv A outer s H vs Q E hr h => ?_)
  · obtain ⟨v, u, s, hd, rfl, _⟩ := h; rfl
  obtain ⟨v, u, z, hd, rfl, ⟨a, rfl, ha⟩, ⟨b, rfl, hb⟩, hl, h5, hz, q⟩ := h
  refine ⟨_, (pss_one (ps_ret (pe_op op_add (pe_ix ix_tup (pv 0) (pe_un un_neg pe_int) (fun _ _ => rfl)) (pe_callB (cr_sum rfl) (by rfl) T.b_sum bv_sum (pa_cons (pe_lc (own := [("many", 2), ("one", 3)]) (g := (gTup K 2 (gCons (gName 2) (gCons (gName 3) gNil)))) (tt := tYes) rfl sc_value_of.nd (RZ.pi_zipA (by rfl) T.b_zip (pa_cons (pv 0) (pa_cons (pv 1) pa_nil))) (blkOk_by (N := N_value_of) (sc := defScope s_value_of) (by decide +kernel)) (fun _ _ _ _ _ => (pg_tup rfl (pgs_cons (pg_name (i := 2) sc_value_of.nd rfl (Or.inl rfl)) (pgs_cons (pg_name (i := 3) sc_value_of.nd rfl (Or.inl rfl)) pgs_nil)))) (fun _ _ _ _ _ => pts_nil) (fun _ _ _ _ _ => (pe_op op_mul (pv 2) (pv 3)))) pa_nil))))), ?_⟩
  have hne : z ≠ [] := by intro e; rw [e] at hl; simp at hl
  refine ⟨_, rfl, _, rfl, _, _, _, _, rfl, rfl, SqT.of (ha), at_sum hne rfl, _, rfl, _, rfl, a, b, _, _, rfl, .inr ⟨SqT.of ha, SqT.of hb, fun D hD => ?_⟩⟩
  have hn : hd.length = min (z.map V.int).length (hd.map V.int).length := by simp only [List.length_map]; omega
  refine lc_it (walk_zipT (xs := z.map V.int) (ys := hd.map V.int) hn) (fun i H' => Same H H' ∧ H' D = some (.lst (((List.zipWith (· * ·) z hd).take i).map V.int))) ⟨Same.new hD, upd_same⟩ ?_ ?_ ?_
  · rintro i H' hi ⟨g, h1⟩
    exact ⟨SqT.of (g.at_ ha), SqT.of (g.at_ hb)⟩
  · rintro i v H' H2 hi ⟨g, h1⟩ ⟨t, x, y, rfl, ht, rfl, e1, e2⟩
    obtain ⟨m, hm, rfl⟩ := list_ints e1
    obtain ⟨k, hk, rfl⟩ := list_ints e2
    have hb1 := hz m (List.mem_of_getElem? hm)
    have tD : D ≠ t := ne_of_none h1 ht
    refine ⟨_, _, rfl, SqT.of upd_same, rfl, _, _, rfl, _, _, rfl, rfl, rfl, _, rfl, _, rfl, _, _, rfl, rfl, .inl ⟨by omega, by omega⟩, _, by rw [upd_ne tD]; exact h1, ?_, ?_, ?_⟩
    · rw [List.length_map, List.length_take]; exact szlt (by omega)
    · exact Same.mut (Same.then_ g ht) hD
    · rw [upd_same, List.take_add_one, List.getElem?_zipWith, hm, hk, List.map_append]; rfl
  · rintro H' ⟨g, h1⟩
    have e : (List.zipWith (· * ·) z hd).take hd.length = List.zipWith (· * ·) z hd := List.take_of_length_le (by rw [List.length_zipWith]; omega)
    rw [e] at h1
    refine ⟨D, _, rfl, SqL.of h1, _, _, rfl, rfl, ?_⟩
    have := q _ g
    unfold val at this
    rw [← dot_zip] at this
    exact this
theorem ok_does_hold (T : Facts w K mg) : OkF P w K mg base CX0 2 "does_hold" ["test", "held"] spHold := by
  have G_value_of := ok_value_of (P := P) (base := base) T
  refine T.d_does_hold.ok sc_does_hold bb_does_hold (fun vs H Q E h => ?_) (fun f cdv A outer s H vs Q E hr h => ?_)
  · obtain ⟨v, u, t, hd, rfl, _⟩ := h; rfl
  obtain ⟨v, u, t, hd, rfl, ⟨a, p, q, rfl, ha, hp, hq⟩, hu, ⟨o1, o2⟩, h5, qq⟩ := h
  refine ⟨_, (pss_cons (ps_par (i := 2) (j := 3) rfl sc_does_hold.nd rfl rfl (by decide) rfl rfl (pa_cons (pe_cal G_value_of (hr.mono (by first | decide | omega)) (pa_cons (pe_ix ix_tup (pv 0) pe_int (fun _ _ => rfl)) (pa_cons (pv 1) pa_nil))) (pa_cons (pe_cal G_value_of (hr.mono (by first | decide | omega)) (pa_cons (pe_ix ix_tup (pv 0) pe_int (fun _ _ => rfl)) (pa_cons (pv 1) pa_nil))) pa_nil)) (by rfl))
      (pss_one (ps_ret (pe_ifExp (pt_cmpR op_eq (pe_ix ix_tup (pv 0) pe_int (fun _ _ => rfl)) (pe_gs T.c_LESS) (nomark _)) (pe_cmpR op_lt (pv 2) (pv 3) (nomark _)) (pe_cmpR op_eq (pv 2) (pv 3) (nomark _)))))), ?_⟩
  refine ⟨_, rfl, _, _, _, _, rfl, rfl, SqT.of (ha), atI_nat (j := 1) rfl, _, rfl, _, _, _, _, rfl, hp, hu, o1.1, h5, o1.2, fun H1 g1 => ?_⟩
  refine ⟨_, rfl, _, _, _, _, rfl, rfl, SqT.of (g1.at_ ha), atI_nat (j := 2) rfl, _, rfl, _, _, _, _, rfl, hq.mono (Same.tups g1), hu.mono (Same.tups g1), o2.1, h5, o2.2, fun H2 g2 => ?_⟩
  have g := g1.trans g2
  refine ⟨_, _, rfl, _, rfl, _, _, _, _, rfl, rfl, SqT.of (g.at_ ha), atI_nat (j := 0) rfl, rfl, _, rfl, ?_⟩
  have := qq _ g
  unfold holds at this
  cases hl : t.less with
  | true =>
    rw [hl] at this
    exact itT (by rw [show tsS true = "less" from rfl]; decide +kernel) ⟨_, rfl, _, rfl, _, _, rfl, rfl, this⟩
  | false =>
    rw [hl] at this
    refine itF (by rw [show tsS false = "same" from rfl]; decide +kernel) ⟨_, rfl, _, rfl, rfl, ?_⟩
    have e : decide (V.int (val t.a hd) = V.int (val t.b hd)) = decide (val t.a hd = val t.b hd) := decide_eq_decide.mpr ⟨V.int.inj, congrArg _⟩
    rw [e]
    exact this
theorem ok_onward (T : Facts w K mg) : OkF P w K mg base CX0 1 "onward" ["levels"] spOnw := by
  refine T.d_onward.ok sc_onward bb_onward (fun vs H Q E h => ?_) (fun f cdv A outer s H vs Q E hr h => ?_)
  · obtain ⟨v, _, _, _, rfl, _⟩ := h; rfl
  obtain ⟨p, b, k, r, rfl, hL, hl, q⟩ := h
  obtain ⟨vs, a, bo, hp, ha, hb, hv⟩ := hL.head
  have vl := hv.len
  refine ⟨_, (pss_cons (ps_asg (pe_ix ix_tup (pv 0) (pe_un un_neg pe_int) (fun _ _ => rfl)) (pg_tup rfl (pgs_cons (pg_name (i := 1) sc_onward.nd rfl (Or.inl rfl)) (pgs_cons (pg_name (i := 2) sc_onward.nd rfl (Or.inl rfl)) pgs_nil))))
      (pss_one (ps_ret (pe_op op_catU (pe_slice sl_tupU (pv 0) po_none (po_some (pe_un un_neg pe_int))) (pe_tup (pa_cons (pe_tup (pa_cons (pv 1) (pa_cons (pe_op op_add (pv 2) pe_int) pa_nil))) pa_nil)))))), ?_⟩
  refine ⟨_, rfl, _, rfl, _, _, _, _, rfl, rfl, SqT.of (hp), at_last rfl, _, _, rfl, SqT.of ha, rfl, _, _, rfl, _, _, rfl, rfl, ?_⟩
  refine ⟨_, rfl, _, rfl, _, rfl, p, _, rfl, hp, fun p1 H1 g1 e1 => ?_⟩
  rw [cut_init rfl] at e1
  refine ⟨_, rfl, _, rfl, _, _, rfl, rfl, (by show 2 ≤ sizeLine; decide), fun p2 hp2 => ⟨(by show 1 ≤ sizeLine; decide), fun p3 hp3 => ?_⟩⟩
  have g2 : Same H1 (upd H1 p2 (.tup [V.ref bo, V.int ((k : Int) + 1)])) := Same.new hp2
  have g3 := Same.then_ g2 (o := .tup [V.ref p2]) hp3
  refine ⟨p1, p3, _, _, rfl, rfl, g3.at_ e1, upd_same, ?_, fun p4 H4 g4 e4 => ?_⟩
  · rw [List.length_reverse, List.length_singleton]; omega
  have gg := g1.trans (g3.trans g4)
  refine q p4 H4 gg (LvsA.of e4 (a := p2) (bo := bo) ?_ (hb.mono (Same.tups gg)) (hv.mono fun _ _ r => r.mono (Same.tups gg)))
  have := g4.at_ (newAt (p := p3) (u := .tup [V.ref p2]) (upd_same (H := H1) (a := p2) (o := .tup [V.ref bo, V.int ((k : Int) + 1)])) hp3)
  rw [this]
  rfl
theorem ok_next_of (T : Facts w K mg) : OkF P w K mg base CX0 1 "next_of" ["opened"] spNext := by
  refine T.d_next_of.ok sc_next_of bb_next_of (fun vs H Q E h => ?_) (fun f cdv A outer s H vs Q E hr h => ?_)
  · obtain ⟨v, _, _, rfl, _⟩ := h; rfl
  obtain ⟨p, o, st, rfl, ho, hn, q⟩ := h
  obtain ⟨n, b, k, lv, rest, rfl, e⟩ := next_ex hn
  obtain ⟨vs, a, q2, hp, ha, hq, hv⟩ := ho.head
  obtain ⟨vs2, a2, bo, hp2, ha2, hb, hv2⟩ := hq.head
  obtain ⟨ws, hbo, hw⟩ := hb.all
  obtain ⟨v, ev, hs⟩ := hw.get e
  refine ⟨_, (pss_cons (ps_asg (pe_ix ix_tup (pe_ix ix_tup (pe_ix ix_tup (pv 0) (pe_un un_neg pe_int) (fun _ _ => rfl)) pe_int (fun _ _ => rfl)) (pe_un un_neg pe_int) (fun _ _ => rfl)) (pg_tup rfl (pgs_cons (pg_name (i := 1) sc_next_of.nd rfl (Or.inl rfl)) (pgs_cons (pg_name (i := 2) sc_next_of.nd rfl (Or.inl rfl)) pgs_nil))))
      (pss_one (ps_ret (pe_ix ix_tup (pv 1) (pv 2) (fun _ _ => rfl))))), ?_⟩
  refine ⟨_, rfl, _, rfl, _, _, _, _, rfl, rfl, SqT.of (hp), at_last rfl, _, _, _, _, rfl, rfl, SqT.of ha, atI_nat (j := 1) rfl, _, rfl, _, _, _, _, rfl, rfl, SqT.of hp2, at_last rfl, ?_⟩
  refine ⟨_, _, rfl, SqT.of ha2, rfl, _, _, rfl, _, _, rfl, rfl, ?_⟩
  exact ⟨_, rfl, _, rfl, _, _, _, _, rfl, rfl, SqT.of hbo, atI_nat ev, q v hs⟩
theorem stm_whl {H : Hp} {s : Stm} {v : V} (h : StA H s v) : ∃ a xs, v = .ref a ∧ H a = some (.tup (.str (wordS s) :: xs)) ∧ decide (V.str (wordS s) = V.str "while") = isWhl (some s) := by
  obtain ⟨a, xs, e, e2⟩ := h.head
  refine ⟨a, xs, e, e2, ?_⟩
  cases s with
  | set c s => show decide (V.str "set" = V.str "while") = false; decide +kernel
  | put b x y => show decide (V.str "put" = V.str "while") = false; decide +kernel
  | ask c w s => show decide (V.str "ask" = V.str "while") = false; decide +kernel
  | call r => show decide (V.str "call" = V.str "while") = false; decide +kernel
  | ite t y n => show decide (V.str "if" = V.str "while") = false; decide +kernel
  | whl t b => show decide (V.str "while" = V.str "while") = true; decide +kernel
theorem ok_settled (T : Facts w K mg) : OkF P w K mg base CX0 2 "settled" ["opened"] spSet := by
  have G_onward := ok_onward (P := P) (base := base) T
  refine T.d_settled.ok sc_settled bb_settled (fun vs H Q E h => ?_) (fun f cdv A outer s H vs Q E hr h => ?_)
  · obtain ⟨_, _, v, _, _, rfl, _⟩ := h; rfl
  obtain ⟨cells, rs, p0, o0, l0, rfl, ho0, S0, R, hl0, q⟩ := h
  refine ⟨_, (pss_cons (ps_while PassesOwn.never (pt_cmpR op_gt (pe_callB call_len_seq (by rfl) T.b_len PySem.boot_len (pa_cons (pv 0) pa_nil)) pe_int (nomark _)) (pss_cons (ps_asg (pe_ix ix_tup (pv 0) (pe_un un_neg pe_int) (fun _ _ => rfl)) (pg_tup rfl (pgs_cons (pg_name (i := 1) sc_settled.nd rfl (Or.inl rfl)) (pgs_cons (pg_name (i := 2) sc_settled.nd rfl (Or.inl rfl)) pgs_nil))))
      (pss_cons (ps_asg (pe_ix ix_tup (pv 2) (pe_un un_neg pe_int) (fun _ _ => rfl)) (pg_tup rfl (pgs_cons (pg_name (i := 3) sc_settled.nd rfl (Or.inl rfl)) (pgs_cons (pg_name (i := 4) sc_settled.nd rfl (Or.inl rfl)) pgs_nil))))
      (pss_cons (ps_if (pt_cmpR op_lt (pv 4) (pe_callB call_len_seq (by rfl) T.b_len PySem.boot_len (pa_cons (pv 3) pa_nil)) (nomark _)) (pss_one (ps_ret (pv 0))) pss_nil)
      (pss_cons (ps_set (i := 2) sc_settled.nd rfl (Or.inl rfl) (pe_slice sl_tupU (pv 2) po_none (po_some (pe_un un_neg pe_int))))
      (pss_one (ps_if (pt_cmpR op_gt (pe_callB call_len_seq (by rfl) T.b_len PySem.boot_len (pa_cons (pv 2) pa_nil)) pe_int (nomark _)) (pss_cons (ps_asg (pe_ix ix_tup (pv 2) (pe_un un_neg pe_int) (fun _ _ => rfl)) (pg_tup rfl (pgs_cons (pg_name (i := 3) sc_settled.nd rfl (Or.inl rfl)) (pgs_cons (pg_name (i := 4) sc_settled.nd rfl (Or.inl rfl)) pgs_nil))))
      (pss_one (ps_set (i := 0) sc_settled.nd rfl (Or.inl rfl) (pe_op op_catU (pe_slice sl_tupU (pv 0) po_none (po_some (pe_un un_neg pe_int))) (pe_tup (pa_cons (pe_tup (pa_cons (pv 1) (pa_cons (pe_ifExp (pt_cmpR op_eq (pe_ix ix_tup (pe_ix ix_tup (pv 3) (pv 4) (fun _ _ => rfl)) pe_int (fun _ _ => rfl)) (pe_gs T.c_WHILE) (nomark _)) (pv 2) (pe_cal G_onward (hr.mono (by first | decide | omega)) (pa_cons (pv 2) pa_nil))) pa_nil))) pa_nil)))))) (pss_cons (ps_set (i := 0) sc_settled.nd rfl (Or.inl rfl) (pe_slice sl_tupU (pv 0) po_none (po_some (pe_un un_neg pe_int))))
      (pss_one (ps_if (pt_cmpR op_gt (pe_callB call_len_seq (by rfl) T.b_len PySem.boot_len (pa_cons (pv 0) pa_nil)) pe_int (nomark _)) (pss_one (ps_set (i := 0) sc_settled.nd rfl (Or.inl rfl) (pe_op op_catU (pe_slice sl_tupU (pv 0) po_none (po_some (pe_un un_neg pe_int))) (pe_tup (pa_cons (pe_tup (pa_cons (pe_ix ix_tup (pe_ix ix_tup (pv 0) (pe_un un_neg pe_int) (fun _ _ => rfl)) pe_int (fun _ _ => rfl)) (pa_cons (pe_cal G_onward (hr.mono (by first | decide | omega)) (pa_cons (pe_ix ix_tup (pe_ix ix_tup (pv 0) (pe_un un_neg pe_int) (fun _ _ => rfl)) pe_int (fun _ _ => rfl)) pa_nil)) pa_nil))) pa_nil))))) pss_nil))))))))))
      (pss_one (ps_ret (pv 0)))), ?_⟩
  refine while_m (fun m σ H' => ∃ p x y z u o l, σ = [some (.ref p), x, y, z, u] ∧ OpnA H' p o ∧ Sim rs o l ∧ o.length ≤ 30 ∧ settledP o = settledP o0 ∧ Same H H' ∧ levs o = m) (levs o0) ⟨p0, none, none, none, none, o0, l0, rfl, ho0, S0, hl0, rfl, Same.refl', rfl⟩ ?_
  rintro m σ H' ⟨p, x, y, z, u, o, l, rfl, ho, S, hl, he, g, rfl⟩
  cases o with
  | nil =>
    obtain ⟨vs, hp, hv⟩ := id ho
    cases hv
    refine ⟨_, rfl, p, _, rfl, .inr (SqT.of hp), _, _, rfl, rfl, _, rfl, itF (by decide) ⟨_, rfl, ?_⟩⟩
    exact q p H' g (by rw [← he, settledP_nil]; exact ho)
  | cons ro rest =>
    obtain ⟨n, lv⟩ := ro
    obtain ⟨vs, a, q2, hp, ha, hq, hv⟩ := ho.head
    have vl := hv.len
    rw [List.length_cons] at hl
    refine ⟨_, rfl, p, _, rfl, .inr (SqT.of hp), _, _, rfl, rfl, _, rfl, itT (decide_eq_true (by rw [List.length_append, List.length_singleton]; omega)) ⟨_, fun σ' H' h => h, ?_⟩⟩
    have F := S.fewL R (n, lv) List.mem_cons_self
    have F : lv.length ≤ 5 := F
    cases S with
    | @cons _ _ qq _ ls hn at_ wt =>
      obtain ⟨b, k, r, kk, rfl, hk, L, hqq⟩ := id at_
      obtain ⟨vs2, a2, bo, hp2, ha2, hb, hv2⟩ := hq.head
      have vl2 := hv2.len
      rw [List.length_cons] at F
      obtain ⟨ws, hbo, hw⟩ := hb.all
      have wl := hw.len
      refine ⟨_, rfl, _, rfl, _, _, _, _, rfl, rfl, SqT.of (hp), at_last rfl, _, _, rfl, SqT.of ha, rfl, _, _, rfl, _, _, rfl, rfl, ?_⟩
      refine ⟨_, rfl, _, rfl, _, _, _, _, rfl, rfl, SqT.of (hp2), at_last rfl, _, _, rfl, SqT.of ha2, rfl, _, _, rfl, _, _, rfl, rfl, ?_⟩
      refine ⟨_, rfl, _, rfl, bo, _, rfl, .inr (SqT.of hbo), _, _, rfl, rfl, _, rfl, ?_⟩
      by_cases c : k < b.length
      · refine itT (decide_eq_true (by omega)) ⟨_, rfl, ?_⟩
        exact q p H' g (by rw [← he, settledP_stop c]; exact ho)
      · refine itF (decide_eq_false (by omega)) ?_
        refine ⟨_, rfl, _, rfl, _, rfl, q2, _, rfl, hp2, fun p1 H1 g1 e1 => ?_⟩
        rw [cut_init rfl] at e1
        refine ⟨_, rfl, p1, _, rfl, .inr (SqT.of e1), _, _, rfl, rfl, _, rfl, ?_⟩
        cases hv2 with
        | nil =>
          refine itF (by decide) ?_
          refine ⟨_, rfl, _, rfl, _, rfl, p, _, rfl, g1.at_ hp, fun p3 H3 g3 e3 => ?_⟩
          rw [cut_init rfl] at e3
          refine ⟨_, rfl, p3, _, rfl, .inr (SqT.of e3), _, _, rfl, rfl, _, rfl, ?_⟩
          have g13 := g1.trans g3
          cases rest with
          | nil =>
            cases hv
            refine itF (by decide) ?_
            refine ⟨0, ?_, p3, _, _, _, _, [], [], rfl, ⟨[], e3, .nil⟩, .nil, by simp, ?_, g.trans g13, rfl⟩
            · show 0 < (1 + 0); omega
            · rw [← he, settledP_end c, settledP_nil]
          | cons ro2 rest2 =>
            obtain ⟨n2, lv2⟩ := ro2
            obtain ⟨n3, q3, ls3, rfl, S3⟩ := wt.ok
            have ho3 : OpnA H3 p3 ((n2, lv2) :: rest2) := ⟨vs, e3, hv.mono fun _ _ r => r.mono (Same.tups g13)⟩
            obtain ⟨vs3, a3, q4, hp3, ha3, hq3, hv3⟩ := ho3.head
            have vl3 := hv3.len
            rw [List.length_cons] at hl
            have F2 : FewL ((n2, onw lv2) :: rest2) := S3.fewL R
            have F2 := F2 (n2, onw lv2) List.mem_cons_self
            have F2 : (onw lv2).length ≤ 5 := F2
            rw [onw_len] at F2
            have e3' : H3 p3 = some (.tup vs.reverse) := e3
            refine itT (decide_eq_true ?_) ?_
            · have : (vs.reverse).length = (vs3.reverse ++ [V.ref a3]).length := by rw [hp3] at e3'; rw [← HO.tup.inj (Option.some.inj e3')]
              rw [this, List.length_append, List.length_singleton]; omega
            have elv : ∃ b2 k2 r2, lv2 = (b2, k2) :: r2 := by
              cases lv2 with
              | nil =>
                cases S3 with
                | cons h1 h2 h3 =>
                  obtain ⟨b', p', r', k', eq, _⟩ := h2
                  cases eq
              | cons x r => exact ⟨_, _, _, rfl⟩
            obtain ⟨b2, k2, r2, rfl⟩ := elv
            rw [List.length_cons] at F2
            have hs3 : ∀ {xs : List V}, H3 p3 = some (.tup xs) → xs = vs3.reverse ++ [V.ref a3] := fun {xs} e => by rw [hp3] at e; exact (HO.tup.inj (Option.some.inj e)).symm
            refine ⟨_, rfl, _, rfl, _, rfl, p3, _, rfl, hp3, fun p5 H5 g5 e5 => ?_⟩
            rw [cut_init rfl] at e5
            refine ⟨_, rfl, _, rfl, _, _, _, _, rfl, rfl, SqT.of (g5.at_ hp3), at_last rfl, _, _, _, _, rfl, rfl, SqT.of (g5.at_ ha3), atI_nat (j := 0) rfl, ?_⟩
            refine ⟨_, rfl, _, rfl, _, _, _, _, rfl, rfl, SqT.of (g5.at_ hp3), at_last rfl, _, _, _, _, rfl, rfl, SqT.of (g5.at_ ha3), atI_nat (j := 1) rfl, ?_⟩
            refine ⟨q4, b2, k2, r2, rfl, hq3.mono (Same.tups g5), by omega, fun p6 H6 g6 hL6 => ?_⟩
            refine ⟨(by show 2 ≤ sizeLine; decide), fun p7 hp7 => ⟨(by show 1 ≤ sizeLine; decide), fun p8 hp8 => ?_⟩⟩
            have g7 := Same.then_ (Same.new (o := .tup [V.int (n2 : Int), V.ref p6]) hp7) (o := .tup [V.ref p7]) hp8
            refine ⟨p5, p8, _, _, rfl, rfl, g7.at_ (g6.at_ e5), upd_same, ?_, fun p9 H9 g9 e9 => ?_⟩
            · rw [List.length_reverse, List.length_singleton]; omega
            have gg := g5.trans (g6.trans (g7.trans g9))
            refine ⟨levs ((n2, (b2, k2 + 1) :: r2) :: rest2), ?_, p9, _, _, _, _, _, _, rfl, OpnA.of (a := p7) (q := p6) e9 (g9.at_ (newAt upd_same hp8)) (hL6.mono (Same.tups (g7.trans g9))) (hv3.mono fun _ _ r => r.mono (Same.tups gg)), S3, ?_, ?_, g.trans (g13.trans gg), rfl⟩
            · simp only [levs, List.length_cons]; omega
            · show rest2.length + 1 ≤ 30; omega
            · rw [← he, settledP_out c]; rfl
        | @cons v2 l2 vs3 r3 hl2 hv3 =>
          obtain ⟨b2, k2⟩ := l2
          obtain ⟨a3, bo3, rfl, ha3, hb3⟩ := hl2
          obtain ⟨s3, hs3⟩ := L.under
          obtain ⟨ws3, hbo3, hw3⟩ := hb3.all
          obtain ⟨v3, ev3, hst3⟩ := hw3.get hs3
          obtain ⟨a4, xs4, rfl, ha4, hwh⟩ := stm_whl hst3
          rw [List.reverse_cons] at e1
          rw [List.length_cons] at F vl2
          rw [List.length_cons] at vl2
          refine itT (decide_eq_true (by rw [List.reverse_cons, List.length_append, List.length_singleton]; omega)) ?_
          refine ⟨_, rfl, _, rfl, _, _, _, _, rfl, rfl, SqT.of (e1), at_last rfl, _, _, rfl, SqT.of (g1.at_ ha3), rfl, _, _, rfl, _, _, rfl, rfl, ?_⟩
          refine ⟨_, rfl, _, rfl, _, rfl, p, _, rfl, g1.at_ hp, fun p3 H3 g3 e3 => ?_⟩
          rw [cut_init rfl] at e3
          refine ⟨_, rfl, _, rfl, _, rfl, _, _, _, _, rfl, rfl, SqT.of (g3.at_ (g1.at_ hbo3)), atI_nat ev3, _, _, _, _, rfl, rfl, SqT.of (g3.at_ (g1.at_ ha4)), atI_nat (j := 0) rfl, rfl, _, rfl, ?_⟩
          have e1' := g3.at_ e1
          have g13 := g1.trans g3
          have hL1 : LvsA H3 p1 ((b2, k2) :: r3) := LvsA.of e1' (g13.at_ ha3) (hb3.mono (Same.tups g13)) (hv3.mono fun _ _ r => r.mono (Same.tups g13))
          have es := settledP_in (n := n) (b2 := b2) (p2 := k2) (lv := r3) (rest := rest) c
          rw [hs3] at es
          have S' : ∃ l', Sim rs ((n, if isWhl (some s3) then (b2, k2) :: r3 else onw ((b2, k2) :: r3)) :: rest) l' := by
            rcases at_.exit c with ⟨q', _, h2⟩ | h2
            · rw [hs3] at h2; exact ⟨_, .cons hn h2 wt⟩
            · rw [hs3] at h2; exact ⟨_, .cons hn h2 wt⟩
          obtain ⟨l', S'⟩ := S'
          have fin : ∀ (p6 : Addr) (H6 : Hp), Same H3 H6 → LvsA H6 p6 (if isWhl (some s3) then (b2, k2) :: r3 else onw ((b2, k2) :: r3)) → H6 p3 = some (.tup vs.reverse) → ∀ p7, H6 p7 = none → ∀ p8, upd H6 p7 (.tup [V.int (n : Int), V.ref p6]) p8 = none → ∀ p9 H9, Same (upd (upd H6 p7 (.tup [V.int (n : Int), V.ref p6])) p8 (.tup [V.ref p7])) H9 → H9 p9 = some (.tup (vs.reverse ++ [V.ref p7])) →
              ∃ m', m' < levs ((n, (b, k) :: (b2, k2) :: r3) :: rest) ∧ ∃ p x y z u o l, [some (V.ref p9), some (V.int (n : Int)), some (V.ref p1), some (V.ref bo3), some (V.int (k2 : Int))] = [some (.ref p), x, y, z, u] ∧ OpnA H9 p o ∧ Sim rs o l ∧ o.length ≤ 30 ∧ settledP o = settledP o0 ∧ Same H H9 ∧ levs o = m' := by
            intro p6 H6 g6 hL6 e6 p7 hp7 p8 hp8 p9 H9 g9 e9
            have g7 := Same.then_ (Same.new (o := .tup [V.int (n : Int), V.ref p6]) hp7) (o := .tup [V.ref p7]) hp8
            have gg := g6.trans (g7.trans g9)
            refine ⟨_, ?_, p9, _, _, _, _, _, l', rfl, OpnA.of (a := p7) (q := p6) e9 (g9.at_ (newAt upd_same hp8)) (hL6.mono (Same.tups (g7.trans g9))) (hv.mono fun _ _ r => r.mono (Same.tups (g13.trans gg))), S', ?_, ?_, g.trans (g13.trans gg), rfl⟩
            · split <;> (simp only [levs, onw, List.length_cons]; omega)
            · rw [List.length_cons]; exact hl
            · rw [← he, es]
          by_cases cw : isWhl (some s3) = true
          · refine itT (by rw [hwh]; exact cw) ⟨_, rfl, (by show 2 ≤ sizeLine; decide), fun p7 hp7 => ⟨(by show 1 ≤ sizeLine; decide), fun p8 hp8 => ?_⟩⟩
            have g7 := Same.then_ (Same.new (o := .tup [V.int (n : Int), V.ref p1]) hp7) (o := .tup [V.ref p7]) hp8
            refine ⟨p3, p8, _, _, rfl, rfl, g7.at_ e3, upd_same, ?_, fun p9 H9 g9 e9 => ?_⟩
            · rw [List.length_reverse, List.length_singleton]; omega
            exact fin p1 H3 Same.refl' (by rw [if_pos cw]; exact hL1) e3 p7 hp7 p8 hp8 p9 H9 g9 e9
          · refine itF (by rw [hwh]; exact Bool.eq_false_iff.mpr cw) ⟨_, rfl, p1, b2, k2, r3, rfl, hL1, by omega, fun p6 H6 g6 hL6 => ⟨(by show 2 ≤ sizeLine; decide), fun p7 hp7 => ⟨(by show 1 ≤ sizeLine; decide), fun p8 hp8 => ?_⟩⟩⟩
            have g7 := Same.then_ (Same.new (o := .tup [V.int (n : Int), V.ref p6]) hp7) (o := .tup [V.ref p7]) hp8
            refine ⟨p3, p8, _, _, rfl, rfl, g7.at_ (g6.at_ e3), upd_same, ?_, fun p9 H9 g9 e9 => ?_⟩
            · rw [List.length_reverse, List.length_singleton]; omega
            exact fin p6 H6 g6 (by rw [if_neg cw]; exact hL6) (g6.at_ e3) p7 hp7 p8 hp8 p9 H9 g9 e9
end
end K34

set_option Elab.async false
set_option linter.all false
set_option maxRecDepth 100000
set_option maxHeartbeats 4000000
/-! D4: a step. -/
namespace K34
open PySem PySem.Spec PyProof.Rows L2
open He (ga ma)
def wrS : Wr → Str
  | .over => "over"
  | .runs => "runs"
  | .fault => "fault"
def spWalk (K : PySem.W.Frag) : Sp := fun vs H Q _ => ∃ (sc p : Addr) (u : V) (cells : Nat) (rs : List (List Stm)) (o : Opn) (l : List (Nat × Nat)) (s : Stm) (hd : List Int), vs = [.ref sc, .ref p, u] ∧ ScnA K H sc cells rs ∧ OkR cells rs ∧ cells ≤ 5 ∧ OpnA H p o ∧ Sim rs o l ∧ nextP o = some s ∧ o.length ≤ 20 ∧ SmA H u hd ∧ hd.length = cells ∧
  ∀ p' H', Same H H' → OpnA H' p' (walkedP rs o hd) → Q (.ref p') H'
def spStn (K : PySem.W.Frag) : Sp := fun vs H Q _ => ∃ (a dx : Addr) (o h p : V), vs = [.ref a, o, h, p] ∧ H a = some (.ins (ga K "Standing") dx []) ∧ Q .non (upd (upd (upd H a (.ins (ga K "Standing") dx [("open_routines", o)])) a (.ins (ga K "Standing") dx [("open_routines", o), ("held", h)])) a (.ins (ga K "Standing") dx (fStn o h p)))
def st0 (rs : List (List Stm)) (held : List Int) (many : Nat) : PSt := ⟨settledP [(0, [(rs.getD 0 [], 0)])], held, List.replicate many none⟩
def spBegun (K : PySem.W.Frag) : Sp := fun vs H Q _ => ∃ (sc bx : Addr) (u : V) (cells : Nat) (rs : List (List Stm)) (zs : List (Int × Int)) (hd : List Int), vs = [.ref sc, .ref bx, u] ∧ ScnA K H sc cells rs ∧ OkR cells rs ∧ BxsA K H bx zs ∧ 1 ≤ zs.length ∧ zs.length ≤ 4 ∧ SmA H u hd ∧
  ∀ v H', Same H H' → StnA K H' v (st0 rs hd zs.length) → Q v H'
/-- what is asked of a standing -/
structure StOk (cells : Nat) (rs : List (List Stm)) (many : Nat) (st : PSt) : Prop where
  R : OkR cells rs
  c5 : cells ≤ 5
  m1 : 1 ≤ many
  m4 : many ≤ 4
  g : Good rs cells many st
def spDone (K : PySem.W.Frag) : Sp := fun vs H Q _ => ∃ (bx : Addr) (v : V) (cells : Nat) (rs : List (List Stm)) (zs : List (Int × Int)) (st : PSt) (s : Stm), vs = [.ref bx, v] ∧ BxsA K H bx zs ∧ StnA K H v st ∧ StOk cells rs zs.length st ∧ nextP st.op = some s ∧ ∀ H', Same H H' → Q (.bl (doneP zs.length st)) H'
def spWord (K : PySem.W.Frag) : Sp := fun vs H Q _ => ∃ (bx : Addr) (v : V) (cells : Nat) (rs : List (List Stm)) (zs : List (Int × Int)) (st : PSt), vs = [.ref bx, v] ∧ BxsA K H bx zs ∧ StnA K H v st ∧ StOk cells rs zs.length st ∧ ∀ H', Same H H' → Q (.str (wrS (wordP zs.length st))) H'
def spAsked (K : PySem.W.Frag) : Sp := fun vs H Q _ => ∃ (bx : Addr) (v : V) (zs : List (Int × Int)) (pos : List (Option (Int × Int))) (wd : Wd) (k : Nat), vs = [.ref bx, v, .str (wdS wd), .int (k : Int)] ∧ BxsA K H bx zs ∧ PosA H v pos ∧ k < zs.length ∧ (wd = .width ∨ wd = .height ∨ ∃ z, pos[k]? = some (some z)) ∧ ∀ H', Same H H' → Q (.int (askedP zs pos wd k)) H'
def spChg : Sp := fun vs H Q _ => ∃ (a : Addr) (k : Nat) (v : V) (xs : List V), vs = [.ref a, .int (k : Int), v] ∧ H a = some (.tup xs) ∧ k < xs.length ∧ xs.length ≤ 1000 ∧ ∀ p H', Same H H' → H' p = some (.tup (xs.set k v)) → Q (.ref p) H'
def spBehind (K : PySem.W.Frag) : Sp := fun vs H Q _ => ∃ (sc bx : Addr) (v : V) (cells : Nat) (rs : List (List Stm)) (zs : List (Int × Int)) (st : PSt), vs = [.ref sc, .ref bx, v] ∧ ScnA K H sc cells rs ∧ BxsA K H bx zs ∧ StnA K H v st ∧ StOk cells rs zs.length st ∧ wordP zs.length st = .runs ∧ ∀ v' H', Same H H' → StnA K H' v' (behindP rs zs st) → Q v' H'
theorem RtsA.at_ {H : Hp} {p : Addr} {rs : List (List Stm)} (h : RtsA H p rs) : ∃ vs, H p = some (.tup vs) ∧ ∀ {n : Nat}, n < rs.length → ∃ q, vs[n]? = some (.ref q) ∧ BdA H q (rs.getD n []) := by
  obtain ⟨vs, hp, hv⟩ := h
  refine ⟨vs, hp, fun {n} hn => ?_⟩
  obtain ⟨v, e, q, rfl, hb⟩ := hv.get (List.getElem?_eq_getElem hn)
  refine ⟨q, e, ?_⟩
  rw [List.getD_eq_getElem?_getD, List.getElem?_eq_getElem hn]
  exact hb
/-- new: a body, its place; these levels -/
theorem LvsA.new1 {H : Hp} {p2 p3 bo : Addr} {b : List Stm} {k : Nat} (hb : BdA H bo b) (h2 : H p2 = some (.tup [.ref bo, .int (k : Int)])) (h3 : H p3 = some (.tup [.ref p2])) : LvsA H p3 [(b, k)] := ⟨[.ref p2], h3, .cons ⟨p2, bo, rfl, h2, hb⟩ .nil⟩
theorem inv_w_pl {s : Stm} (h : isPl s = true) : (inV (.str (wordS s)) [.str "if", .str "while"]) = false := by
  have := word_pl h
  cases e : inV (.str (wordS s)) [.str "if", .str "while"] with
  | false => rfl
  | true => rw [e] at this; cases this
theorem dec_set {s : Stm} : decide (V.str (wordS s) = V.str "set") = (match s with | .set _ _ => true | _ => false) := by
  cases s with
  | set c s => show decide (V.str "set" = V.str "set") = true; decide +kernel
  | put b x y => show decide (V.str "put" = V.str "set") = false; decide +kernel
  | ask c w s => show decide (V.str "ask" = V.str "set") = false; decide +kernel
  | call r => show decide (V.str "call" = V.str "set") = false; decide +kernel
  | ite t y n => show decide (V.str "if" = V.str "set") = false; decide +kernel
  | whl t b => show decide (V.str "while" = V.str "set") = false; decide +kernel
theorem dec_put {s : Stm} : decide (V.str (wordS s) = V.str "put") = (match s with | .put _ _ _ => true | _ => false) := by
  cases s with
  | set c s => show decide (V.str "set" = V.str "put") = false; decide +kernel
  | put b x y => show decide (V.str "put" = V.str "put") = true; decide +kernel
  | ask c w s => show decide (V.str "ask" = V.str "put") = false; decide +kernel
  | call r => show decide (V.str "call" = V.str "put") = false; decide +kernel
  | ite t y n => show decide (V.str "if" = V.str "put") = false; decide +kernel
  | whl t b => show decide (V.str "while" = V.str "put") = false; decide +kernel
theorem dec_ask {s : Stm} : decide (V.str (wordS s) = V.str "ask") = (match s with | .ask _ _ _ => true | _ => false) := by
  cases s with
  | set c s => show decide (V.str "set" = V.str "ask") = false; decide +kernel
  | put b x y => show decide (V.str "put" = V.str "ask") = false; decide +kernel
  | ask c w s => show decide (V.str "ask" = V.str "ask") = true; decide +kernel
  | call r => show decide (V.str "call" = V.str "ask") = false; decide +kernel
  | ite t y n => show decide (V.str "if" = V.str "ask") = false; decide +kernel
  | whl t b => show decide (V.str "while" = V.str "ask") = false; decide +kernel
theorem dec_call {s : Stm} : decide (V.str (wordS s) = V.str "call") = (match s with | .call _ => true | _ => false) := by
  cases s with
  | set c s => show decide (V.str "set" = V.str "call") = false; decide +kernel
  | put b x y => show decide (V.str "put" = V.str "call") = false; decide +kernel
  | ask c w s => show decide (V.str "ask" = V.str "call") = false; decide +kernel
  | call r => show decide (V.str "call" = V.str "call") = true; decide +kernel
  | ite t y n => show decide (V.str "if" = V.str "call") = false; decide +kernel
  | whl t b => show decide (V.str "while" = V.str "call") = false; decide +kernel
theorem dec_if {s : Stm} : decide (V.str (wordS s) = V.str "if") = (match s with | .ite _ _ _ => true | _ => false) := by
  cases s with
  | set c s => show decide (V.str "set" = V.str "if") = false; decide +kernel
  | put b x y => show decide (V.str "put" = V.str "if") = false; decide +kernel
  | ask c w s => show decide (V.str "ask" = V.str "if") = false; decide +kernel
  | call r => show decide (V.str "call" = V.str "if") = false; decide +kernel
  | ite t y n => show decide (V.str "if" = V.str "if") = true; decide +kernel
  | whl t b => show decide (V.str "while" = V.str "if") = false; decide +kernel
theorem dec_while {s : Stm} : decide (V.str (wordS s) = V.str "while") = (match s with | .whl _ _ => true | _ => false) := by
  cases s with
  | set c s => show decide (V.str "set" = V.str "while") = false; decide +kernel
  | put b x y => show decide (V.str "put" = V.str "while") = false; decide +kernel
  | ask c w s => show decide (V.str "ask" = V.str "while") = false; decide +kernel
  | call r => show decide (V.str "call" = V.str "while") = false; decide +kernel
  | ite t y n => show decide (V.str "if" = V.str "while") = false; decide +kernel
  | whl t b => show decide (V.str "while" = V.str "while") = true; decide +kernel
theorem inv_iw {s : Stm} : inV (.str (wordS s)) [.str "if", .str "while"] = (match s with | .ite _ _ _ => true | .whl _ _ => true | _ => false) := by
  cases s with
  | set c s => show inV (.str "set") [.str "if", .str "while"] = false; decide +kernel
  | put b x y => show inV (.str "put") [.str "if", .str "while"] = false; decide +kernel
  | ask c w s => show inV (.str "ask") [.str "if", .str "while"] = false; decide +kernel
  | call r => show inV (.str "call") [.str "if", .str "while"] = false; decide +kernel
  | ite t y n => show inV (.str "if") [.str "if", .str "while"] = true; decide +kernel
  | whl t b => show inV (.str "while") [.str "if", .str "while"] = true; decide +kernel
theorem inv_pa {s : Stm} : inV (.str (wordS s)) [.str "put", .str "ask"] = (match s with | .put _ _ _ => true | .ask _ _ _ => true | _ => false) := by
  cases s with
  | set c s => show inV (.str "set") [.str "put", .str "ask"] = false; decide +kernel
  | put b x y => show inV (.str "put") [.str "put", .str "ask"] = true; decide +kernel
  | ask c w s => show inV (.str "ask") [.str "put", .str "ask"] = true; decide +kernel
  | call r => show inV (.str "call") [.str "put", .str "ask"] = false; decide +kernel
  | ite t y n => show inV (.str "if") [.str "put", .str "ask"] = false; decide +kernel
  | whl t b => show inV (.str "while") [.str "put", .str "ask"] = false; decide +kernel
section
variable {P : Program} {w : World} {K : PySem.W.Frag} {mg : Str → Option Value} {base : Heap}
theorem ok_walked_on (T : Facts w K mg) : OkF P w K mg base CX0 3 "walked_on" ["scene", "opened", "held"] (spWalk K) := by
  have G_does_hold := ok_does_hold (P := P) (base := base) T
  have G_onward := ok_onward (P := P) (base := base) T
  have G_next_of := ok_next_of (P := P) (base := base) T
  have G_settled := ok_settled (P := P) (base := base) T
  refine T.d_walked_on.ok sc_walked_on bb_walked_on (fun vs H Q E h => ?_) (fun f cdv A outer s H vs Q E hr h => ?_)
  · obtain ⟨_, _, _, _, _, _, _, _, _, rfl, _⟩ := h; rfl
  obtain ⟨sc, p, u, cells, rs, o, l, st, hd, rfl, ⟨sdx, rp, hsc, hrt⟩, R, c5, ho, S, hn, hl, hu, hdl, q⟩ := h
  obtain ⟨n, b, k, lv, rest, rfl, e⟩ := next_ex hn
  obtain ⟨vs, a, q2, hp, ha, hq, hv⟩ := id ho.head
  have vl := hv.len
  obtain ⟨vs2x, a2x, box, hp2x, ha2x, hbx, hv2x⟩ := id hq.head
  have vl2x := hv2x.len
  rw [List.length_cons] at hl
  have okst := S.ok hn R.ok
  have F := S.fewL R (n, (b, k) :: lv) List.mem_cons_self
  have F : ((b, k) :: lv).length ≤ 5 := F
  rw [List.length_cons] at F
  have S0 := S
  cases S with
  | @cons _ _ qq _ ls hnn at_ wt =>
  have S1 := S0.uns (held := hd) hn okst
  have W := walked_uns (rs := rs) (held := hd) hn
  refine ⟨_, (pss_cons (ps_set (i := 3) sc_walked_on.nd rfl (Or.inl rfl) (pe_cal G_next_of (hr.mono (by first | decide | omega)) (pa_cons (pv 1) pa_nil)))
      (pss_cons (ps_asg (pe_ix ix_tup (pv 1) (pe_un un_neg pe_int) (fun _ _ => rfl)) (pg_tup rfl (pgs_cons (pg_name (i := 4) sc_walked_on.nd rfl (Or.inl rfl)) (pgs_cons (pg_name (i := 5) sc_walked_on.nd rfl (Or.inl rfl)) pgs_nil))))
      (pss_cons (ps_if (pt_cmpR op_eq (pe_ix ix_tup (pv 3) pe_int (fun _ _ => rfl)) (pe_gs T.c_CALL) (nomark _)) (pss_one (ps_ret (pe_cal G_settled (hr.mono (by first | decide | omega)) (pa_cons (pe_op op_catU (pv 1) (pe_tup (pa_cons (pe_tup (pa_cons (pe_ix ix_tup (pv 3) pe_int (fun _ _ => rfl)) (pa_cons (pe_tup (pa_cons (pe_tup (pa_cons (pe_ix ix_tup (pe_fld (pv 0) rfl) (pe_ix ix_tup (pv 3) pe_int (fun _ _ => rfl)) (fun _ _ => rfl)) (pa_cons pe_int pa_nil))) pa_nil)) pa_nil))) pa_nil))) pa_nil)))) pss_nil)
      (pss_cons (ps_set (i := 6) sc_walked_on.nd rfl (Or.inl rfl) (pe_and (pe_cmpR op_in_seq (pe_ix ix_tup (pv 3) pe_int (fun _ _ => rfl)) (pe_tup (pa_cons (pe_gs T.c_IF) (pa_cons (pe_gs T.c_WHILE) pa_nil))) rfl) (pe_one (pe_cal G_does_hold (hr.mono (by first | decide | omega)) (pa_cons (pe_ix ix_tup (pv 3) pe_int (fun _ _ => rfl)) (pa_cons (pv 2) pa_nil))))))
      (pss_cons (ps_if (PW.pt (pw_or (pt_cmpR op_eq (pe_ix ix_tup (pv 3) pe_int (fun _ _ => rfl)) (pe_gs T.c_IF) (nomark _)) (pw_or1 (pt_val (pv 6))))) (pss_one (ps_set (i := 5) sc_walked_on.nd rfl (Or.inl rfl) (pe_op op_catU (pv 5) (pe_tup (pa_cons (pe_tup (pa_cons (pe_ifExp (pt_val (pv 6)) (pe_ix ix_tup (pv 3) pe_int (fun _ _ => rfl)) (pe_ix ix_tup (pv 3) pe_int (fun _ _ => rfl))) (pa_cons pe_int pa_nil))) pa_nil))))) (pss_one (ps_set (i := 5) sc_walked_on.nd rfl (Or.inl rfl) (pe_cal G_onward (hr.mono (by first | decide | omega)) (pa_cons (pv 5) pa_nil)))))
      (pss_one (ps_ret (pe_cal G_settled (hr.mono (by first | decide | omega)) (pa_cons (pe_op op_catU (pe_slice sl_tupU (pv 1) po_none (po_some (pe_un un_neg pe_int))) (pe_tup (pa_cons (pe_tup (pa_cons (pv 4) (pa_cons (pv 5) pa_nil))) pa_nil))) pa_nil))))))))), ?_⟩
  refine ⟨_, rfl, p, _, st, rfl, ho, hn, fun v hst => ?_⟩
  obtain ⟨a0, xs0, rfl, ha0⟩ := hst.head
  refine ⟨_, rfl, _, rfl, _, _, _, _, rfl, rfl, SqT.of (hp), at_last rfl, _, _, rfl, SqT.of ha, rfl, _, _, rfl, _, _, rfl, rfl, ?_⟩
  refine ⟨_, rfl, _, _, _, _, rfl, rfl, SqT.of (ha0), atI_nat (j := 0) rfl, rfl, _, rfl, ?_⟩
  cases st with
  | set c z =>
    · refine itF (by rw [dec_call]) ?_
      refine ⟨_, rfl, _, _, _, _, rfl, rfl, SqT.of (ha0), atI_nat (j := 0) rfl, (by show 2 ≤ sizeLine; decide), fun l1 hl1 => ⟨l1, _, rfl, .inr (SqT.of upd_same), rfl, rfl, _, rfl, itF (inv_w_pl rfl) ?_⟩⟩
      have g1 : Same H (upd H l1 (.tup [V.str "if", V.str "while"])) := Same.new hl1
      refine ⟨_, rfl, _, _, _, _, rfl, rfl, SqT.of (g1.at_ ha0), atI_nat (j := 0) rfl, rfl, _, rfl, itF (by first | rw [dec_call] | rw [dec_if] | rw [inv_iw] | decide +kernel) ⟨_, rfl, _, rfl, itF rfl ?_⟩⟩
      refine ⟨_, rfl, q2, b, k, lv, rfl, hq.mono (Same.tups g1), by omega, fun p6 H6 g6 hL6 => ?_⟩
      have g16 := g1.trans g6
      unfold unsP lstP at S1
      unfold unsP at W
      dsimp only at S1 W
      rw [e] at S1 W
      dsimp only at S1 W
      have e7x := g16.at_ hp
      refine ⟨_, rfl, _, rfl, _, rfl, p, _, rfl, e7x, fun p7 H7 g7 e7 => ?_⟩
      rw [cut_init rfl] at e7
      refine ⟨_, rfl, _, rfl, (by show 2 ≤ sizeLine; decide), fun p8 hp8 => ⟨(by show 1 ≤ sizeLine; decide), fun p9 hp9 => ?_⟩⟩
      have g8 := Same.then_ (Same.new (o := .tup [V.int (n : Int), V.ref p6]) hp8) (o := .tup [V.ref p8]) hp9
      refine ⟨p7, p9, _, _, rfl, rfl, g8.at_ e7, upd_same, ?_, fun pa Ha ga ea => ?_⟩
      · rw [List.length_reverse, List.length_singleton]; omega
      have gt := g7.trans (g8.trans ga)
      have gt2 := Same.trans g16 gt
      exact ⟨cells, rs, pa, _, _, rfl, OpnA.of (a := p8) (q := p6) ea (ga.at_ (newAt upd_same hp9)) (hL6.mono (Same.tups gt)) (hv.mono fun _ _ r => r.mono (Same.tups gt2)), S1, R, by show rest.length + 1 ≤ 30; omega, fun p' H' gg hO => q p' H' (gt2.trans gg) (by rw [W]; exact hO)⟩
  | put x y z =>
    · refine itF (by rw [dec_call]) ?_
      refine ⟨_, rfl, _, _, _, _, rfl, rfl, SqT.of (ha0), atI_nat (j := 0) rfl, (by show 2 ≤ sizeLine; decide), fun l1 hl1 => ⟨l1, _, rfl, .inr (SqT.of upd_same), rfl, rfl, _, rfl, itF (inv_w_pl rfl) ?_⟩⟩
      have g1 : Same H (upd H l1 (.tup [V.str "if", V.str "while"])) := Same.new hl1
      refine ⟨_, rfl, _, _, _, _, rfl, rfl, SqT.of (g1.at_ ha0), atI_nat (j := 0) rfl, rfl, _, rfl, itF (by first | rw [dec_call] | rw [dec_if] | rw [inv_iw] | decide +kernel) ⟨_, rfl, _, rfl, itF rfl ?_⟩⟩
      refine ⟨_, rfl, q2, b, k, lv, rfl, hq.mono (Same.tups g1), by omega, fun p6 H6 g6 hL6 => ?_⟩
      have g16 := g1.trans g6
      unfold unsP lstP at S1
      unfold unsP at W
      dsimp only at S1 W
      rw [e] at S1 W
      dsimp only at S1 W
      have e7x := g16.at_ hp
      refine ⟨_, rfl, _, rfl, _, rfl, p, _, rfl, e7x, fun p7 H7 g7 e7 => ?_⟩
      rw [cut_init rfl] at e7
      refine ⟨_, rfl, _, rfl, (by show 2 ≤ sizeLine; decide), fun p8 hp8 => ⟨(by show 1 ≤ sizeLine; decide), fun p9 hp9 => ?_⟩⟩
      have g8 := Same.then_ (Same.new (o := .tup [V.int (n : Int), V.ref p6]) hp8) (o := .tup [V.ref p8]) hp9
      refine ⟨p7, p9, _, _, rfl, rfl, g8.at_ e7, upd_same, ?_, fun pa Ha ga ea => ?_⟩
      · rw [List.length_reverse, List.length_singleton]; omega
      have gt := g7.trans (g8.trans ga)
      have gt2 := Same.trans g16 gt
      exact ⟨cells, rs, pa, _, _, rfl, OpnA.of (a := p8) (q := p6) ea (ga.at_ (newAt upd_same hp9)) (hL6.mono (Same.tups gt)) (hv.mono fun _ _ r => r.mono (Same.tups gt2)), S1, R, by show rest.length + 1 ≤ 30; omega, fun p' H' gg hO => q p' H' (gt2.trans gg) (by rw [W]; exact hO)⟩
  | ask c wd z =>
    · refine itF (by rw [dec_call]) ?_
      refine ⟨_, rfl, _, _, _, _, rfl, rfl, SqT.of (ha0), atI_nat (j := 0) rfl, (by show 2 ≤ sizeLine; decide), fun l1 hl1 => ⟨l1, _, rfl, .inr (SqT.of upd_same), rfl, rfl, _, rfl, itF (inv_w_pl rfl) ?_⟩⟩
      have g1 : Same H (upd H l1 (.tup [V.str "if", V.str "while"])) := Same.new hl1
      refine ⟨_, rfl, _, _, _, _, rfl, rfl, SqT.of (g1.at_ ha0), atI_nat (j := 0) rfl, rfl, _, rfl, itF (by first | rw [dec_call] | rw [dec_if] | rw [inv_iw] | decide +kernel) ⟨_, rfl, _, rfl, itF rfl ?_⟩⟩
      refine ⟨_, rfl, q2, b, k, lv, rfl, hq.mono (Same.tups g1), by omega, fun p6 H6 g6 hL6 => ?_⟩
      have g16 := g1.trans g6
      unfold unsP lstP at S1
      unfold unsP at W
      dsimp only at S1 W
      rw [e] at S1 W
      dsimp only at S1 W
      have e7x := g16.at_ hp
      refine ⟨_, rfl, _, rfl, _, rfl, p, _, rfl, e7x, fun p7 H7 g7 e7 => ?_⟩
      rw [cut_init rfl] at e7
      refine ⟨_, rfl, _, rfl, (by show 2 ≤ sizeLine; decide), fun p8 hp8 => ⟨(by show 1 ≤ sizeLine; decide), fun p9 hp9 => ?_⟩⟩
      have g8 := Same.then_ (Same.new (o := .tup [V.int (n : Int), V.ref p6]) hp8) (o := .tup [V.ref p8]) hp9
      refine ⟨p7, p9, _, _, rfl, rfl, g8.at_ e7, upd_same, ?_, fun pa Ha ga ea => ?_⟩
      · rw [List.length_reverse, List.length_singleton]; omega
      have gt := g7.trans (g8.trans ga)
      have gt2 := Same.trans g16 gt
      exact ⟨cells, rs, pa, _, _, rfl, OpnA.of (a := p8) (q := p6) ea (ga.at_ (newAt upd_same hp9)) (hL6.mono (Same.tups gt)) (hv.mono fun _ _ r => r.mono (Same.tups gt2)), S1, R, by show rest.length + 1 ≤ 30; omega, fun p' H' gg hO => q p' H' (gt2.trans gg) (by rw [W]; exact hO)⟩
  | call r =>
    rw [StA] at hst
    obtain ⟨a0', eq, hst⟩ := hst
    cases eq
    rw [OkS] at okst
    obtain ⟨rvs, hrp, hr2⟩ := hrt.at_
    obtain ⟨bo, ebo, hbo⟩ := hr2 okst
    refine itT (by first | rw [dec_call] | rw [dec_if] | rw [inv_iw] | decide +kernel) ?_
    refine ⟨_, rfl, _, rfl, _, _, _, _, rfl, rfl, SqT.of (hst), atI_nat (j := 1) rfl, _, rfl, sc, _, _, _, _, rfl, hsc, T.cl_Scene, T.na_Scene_routines, fScn_r, _, rfl, _, _, _, _, rfl, rfl, SqT.of (hst), atI_nat (j := 1) rfl, _, _, _, _, rfl, rfl, SqT.of hrp, atI_nat ebo, ?_⟩
    refine ⟨(by show 2 ≤ sizeLine; decide), fun p1 hp1 => ⟨(by show 1 ≤ sizeLine; decide), fun p2 hp2 => ⟨(by show 2 ≤ sizeLine; decide), fun p3 hp3 => ⟨(by show 1 ≤ sizeLine; decide), fun p4 hp4 => ?_⟩⟩⟩⟩
    have g2 := Same.then_ (Same.new (o := .tup [V.ref bo, V.int 0]) hp1) (o := .tup [V.ref p1]) hp2
    have g3 := Same.then_ (Same.new (o := .tup [V.int (r : Int), V.ref p2]) hp3) (o := .tup [V.ref p3]) hp4
    have g4 := g2.trans g3
    refine ⟨p, p4, _, _, rfl, rfl, g4.at_ hp, upd_same, ?_, fun p5 H5 g5 e5 => ?_⟩
    · rw [List.length_append, List.length_reverse, List.length_singleton, List.length_singleton]; omega
    have g45 := g4.trans g5
    have hnew : LvsA H5 p2 [(rs.getD r [], 0)] := LvsA.new1 (p2 := p1) (hbo.mono (Same.tups g45)) ((g3.trans g5).at_ (newAt upd_same hp2)) ((g3.trans g5).at_ upd_same)
    have hold : All2 (RouA H5) (V.ref a :: vs) ((n, (b, k) :: lv) :: rest) := .cons ⟨a, q2, rfl, g45.at_ ha, hq.mono (Same.tups g45)⟩ (hv.mono fun _ _ r => r.mono (Same.tups g45))
    unfold unsP lstP at S1
    unfold unsP at W
    dsimp only at S1 W
    rw [e] at S1 W
    dsimp only at S1 W
    refine ⟨cells, rs, p5, _, _, rfl, OpnA.of (vs := V.ref a :: vs) (a := p3) (q := p2) (by rw [List.reverse_cons]; exact e5) (g5.at_ (newAt upd_same hp4)) hnew hold, S1, R, by show rest.length + 1 + 1 ≤ 30; omega, fun p' H' gg hO => q p' H' (g45.trans gg) (by rw [W]; exact hO)⟩
  | ite t y m =>
    rw [StA] at hst
    obtain ⟨a0', tp, yp, mp, eq, hst, ht, hy, hm⟩ := hst
    cases eq
    rw [OkS] at okst
    refine itF (by first | rw [dec_call] | rw [dec_if] | rw [inv_iw] | decide +kernel) ?_
    refine ⟨_, rfl, _, _, _, _, rfl, rfl, SqT.of (hst), atI_nat (j := 0) rfl, (by show 2 ≤ sizeLine; decide), fun l1 hl1 => ⟨l1, _, rfl, .inr (SqT.of upd_same), rfl, rfl, _, rfl, itT (by first | rw [dec_call] | rw [dec_if] | rw [inv_iw] | decide +kernel) ?_⟩⟩
    have g1 : Same H (upd H l1 (.tup [V.str "if", V.str "while"])) := Same.new hl1
    refine ⟨_, rfl, _, _, _, _, rfl, rfl, SqT.of (g1.at_ hst), atI_nat (j := 1) rfl, _, rfl, _, _, t, hd, rfl, ht.mono (Same.tups g1), hu.mono (Same.tups g1), by rw [hdl]; exact okst.1, by omega, fun H2 g2 => ?_⟩
    have g12 := g1.trans g2
    refine ⟨_, rfl, _, _, _, _, rfl, rfl, SqT.of (g12.at_ hst), atI_nat (j := 0) rfl, rfl, _, rfl, itT (by first | rw [dec_call] | rw [dec_if] | rw [inv_iw] | decide +kernel) ?_⟩
    unfold unsP lstP at S1
    unfold unsP at W
    dsimp only at S1 W
    rw [e] at S1 W
    dsimp only at S1 W
    refine ⟨_, rfl, _, rfl, _, rfl, ?_⟩
    cases hh : holds t hd with
    | true =>
      rw [hh] at S1 W
      refine itT rfl ⟨_, rfl, _, _, _, _, rfl, rfl, SqT.of (g12.at_ hst), atI_nat (j := 2) rfl, (by show 2 ≤ sizeLine; decide), fun p3 hp3 => ⟨(by show 1 ≤ sizeLine; decide), fun p4 hp4 => ?_⟩⟩
      have g5 := Same.then_ (Same.new (o := .tup [V.ref yp, V.int 0]) hp3) (o := .tup [V.ref p3]) hp4
      have g15 := g12.trans g5
      refine ⟨q2, p4, _, _, rfl, rfl, g15.at_ hp2x, upd_same, ?_, fun p6 H6 g6 e6 => ?_⟩
      · rw [List.length_append, List.length_reverse, List.length_singleton, List.length_singleton]; omega
      have g16 := g15.trans g6
      have hL6 : LvsA H6 p6 ((y, 0) :: (b, k) :: lv) := LvsA.of (vs := V.ref a2x :: vs2x) (a := p3) (bo := yp) (by rw [List.reverse_cons]; exact e6) (g6.at_ (newAt upd_same hp4)) (BdA.mono hy (Same.tups g16)) (.cons ⟨a2x, box, rfl, g16.at_ ha2x, hbx.mono (Same.tups g16)⟩ (hv2x.mono fun _ _ r => r.mono (Same.tups g16)))
      have e7x := g16.at_ hp
      refine ⟨_, rfl, _, rfl, _, rfl, p, _, rfl, e7x, fun p7 H7 g7 e7 => ?_⟩
      rw [cut_init rfl] at e7
      refine ⟨_, rfl, _, rfl, (by show 2 ≤ sizeLine; decide), fun p8 hp8 => ⟨(by show 1 ≤ sizeLine; decide), fun p9 hp9 => ?_⟩⟩
      have g8 := Same.then_ (Same.new (o := .tup [V.int (n : Int), V.ref p6]) hp8) (o := .tup [V.ref p8]) hp9
      refine ⟨p7, p9, _, _, rfl, rfl, g8.at_ e7, upd_same, ?_, fun pa Ha ga ea => ?_⟩
      · rw [List.length_reverse, List.length_singleton]; omega
      have gt := g7.trans (g8.trans ga)
      have gt2 := Same.trans g16 gt
      exact ⟨cells, rs, pa, _, _, rfl, OpnA.of (a := p8) (q := p6) ea (ga.at_ (newAt upd_same hp9)) (hL6.mono (Same.tups gt)) (hv.mono fun _ _ r => r.mono (Same.tups gt2)), S1, R, by show rest.length + 1 ≤ 30; omega, fun p' H' gg hO => q p' H' (gt2.trans gg) (by rw [W]; exact hO)⟩
    | false =>
      rw [hh] at S1 W
      refine itF rfl ⟨_, rfl, _, _, _, _, rfl, rfl, SqT.of (g12.at_ hst), atI_nat (j := 3) rfl, (by show 2 ≤ sizeLine; decide), fun p3 hp3 => ⟨(by show 1 ≤ sizeLine; decide), fun p4 hp4 => ?_⟩⟩
      have g5 := Same.then_ (Same.new (o := .tup [V.ref mp, V.int 0]) hp3) (o := .tup [V.ref p3]) hp4
      have g15 := g12.trans g5
      refine ⟨q2, p4, _, _, rfl, rfl, g15.at_ hp2x, upd_same, ?_, fun p6 H6 g6 e6 => ?_⟩
      · rw [List.length_append, List.length_reverse, List.length_singleton, List.length_singleton]; omega
      have g16 := g15.trans g6
      have hL6 : LvsA H6 p6 ((m, 0) :: (b, k) :: lv) := LvsA.of (vs := V.ref a2x :: vs2x) (a := p3) (bo := mp) (by rw [List.reverse_cons]; exact e6) (g6.at_ (newAt upd_same hp4)) (BdA.mono hm (Same.tups g16)) (.cons ⟨a2x, box, rfl, g16.at_ ha2x, hbx.mono (Same.tups g16)⟩ (hv2x.mono fun _ _ r => r.mono (Same.tups g16)))
      have e7x := g16.at_ hp
      refine ⟨_, rfl, _, rfl, _, rfl, p, _, rfl, e7x, fun p7 H7 g7 e7 => ?_⟩
      rw [cut_init rfl] at e7
      refine ⟨_, rfl, _, rfl, (by show 2 ≤ sizeLine; decide), fun p8 hp8 => ⟨(by show 1 ≤ sizeLine; decide), fun p9 hp9 => ?_⟩⟩
      have g8 := Same.then_ (Same.new (o := .tup [V.int (n : Int), V.ref p6]) hp8) (o := .tup [V.ref p8]) hp9
      refine ⟨p7, p9, _, _, rfl, rfl, g8.at_ e7, upd_same, ?_, fun pa Ha ga ea => ?_⟩
      · rw [List.length_reverse, List.length_singleton]; omega
      have gt := g7.trans (g8.trans ga)
      have gt2 := Same.trans g16 gt
      exact ⟨cells, rs, pa, _, _, rfl, OpnA.of (a := p8) (q := p6) ea (ga.at_ (newAt upd_same hp9)) (hL6.mono (Same.tups gt)) (hv.mono fun _ _ r => r.mono (Same.tups gt2)), S1, R, by show rest.length + 1 ≤ 30; omega, fun p' H' gg hO => q p' H' (gt2.trans gg) (by rw [W]; exact hO)⟩
  | whl t d =>
    rw [StA] at hst
    obtain ⟨a0', tp, dp, eq, hst, ht, hdb⟩ := hst
    cases eq
    rw [OkS] at okst
    refine itF (by first | rw [dec_call] | rw [dec_if] | rw [inv_iw] | decide +kernel) ?_
    refine ⟨_, rfl, _, _, _, _, rfl, rfl, SqT.of (hst), atI_nat (j := 0) rfl, (by show 2 ≤ sizeLine; decide), fun l1 hl1 => ⟨l1, _, rfl, .inr (SqT.of upd_same), rfl, rfl, _, rfl, itT (by first | rw [dec_call] | rw [dec_if] | rw [inv_iw] | decide +kernel) ?_⟩⟩
    have g1 : Same H (upd H l1 (.tup [V.str "if", V.str "while"])) := Same.new hl1
    refine ⟨_, rfl, _, _, _, _, rfl, rfl, SqT.of (g1.at_ hst), atI_nat (j := 1) rfl, _, rfl, _, _, t, hd, rfl, ht.mono (Same.tups g1), hu.mono (Same.tups g1), by rw [hdl]; exact okst.1, by omega, fun H2 g2 => ?_⟩
    have g12 := g1.trans g2
    refine ⟨_, rfl, _, _, _, _, rfl, rfl, SqT.of (g12.at_ hst), atI_nat (j := 0) rfl, rfl, _, rfl, itF (by first | rw [dec_call] | rw [dec_if] | rw [inv_iw] | decide +kernel) ⟨_, rfl, _, rfl, ?_⟩⟩
    unfold unsP lstP at S1
    unfold unsP at W
    dsimp only at S1 W
    rw [e] at S1 W
    dsimp only at S1 W
    cases hh : holds t hd with
    | true =>
      rw [hh] at S1 W
      refine itT rfl ⟨_, rfl, _, rfl, _, rfl, itT rfl ⟨_, rfl, _, _, _, _, rfl, rfl, SqT.of (g12.at_ hst), atI_nat (j := 2) rfl, (by show 2 ≤ sizeLine; decide), fun p3 hp3 => ⟨(by show 1 ≤ sizeLine; decide), fun p4 hp4 => ?_⟩⟩⟩
      have g5 := Same.then_ (Same.new (o := .tup [V.ref dp, V.int 0]) hp3) (o := .tup [V.ref p3]) hp4
      have g15 := g12.trans g5
      refine ⟨q2, p4, _, _, rfl, rfl, g15.at_ hp2x, upd_same, ?_, fun p6 H6 g6 e6 => ?_⟩
      · rw [List.length_append, List.length_reverse, List.length_singleton, List.length_singleton]; omega
      have g16 := g15.trans g6
      have hL6 : LvsA H6 p6 ((d, 0) :: (b, k) :: lv) := LvsA.of (vs := V.ref a2x :: vs2x) (a := p3) (bo := dp) (by rw [List.reverse_cons]; exact e6) (g6.at_ (newAt upd_same hp4)) (BdA.mono hdb (Same.tups g16)) (.cons ⟨a2x, box, rfl, g16.at_ ha2x, hbx.mono (Same.tups g16)⟩ (hv2x.mono fun _ _ r => r.mono (Same.tups g16)))
      have e7x := g16.at_ hp
      refine ⟨_, rfl, _, rfl, _, rfl, p, _, rfl, e7x, fun p7 H7 g7 e7 => ?_⟩
      rw [cut_init rfl] at e7
      refine ⟨_, rfl, _, rfl, (by show 2 ≤ sizeLine; decide), fun p8 hp8 => ⟨(by show 1 ≤ sizeLine; decide), fun p9 hp9 => ?_⟩⟩
      have g8 := Same.then_ (Same.new (o := .tup [V.int (n : Int), V.ref p6]) hp8) (o := .tup [V.ref p8]) hp9
      refine ⟨p7, p9, _, _, rfl, rfl, g8.at_ e7, upd_same, ?_, fun pa Ha ga ea => ?_⟩
      · rw [List.length_reverse, List.length_singleton]; omega
      have gt := g7.trans (g8.trans ga)
      have gt2 := Same.trans g16 gt
      exact ⟨cells, rs, pa, _, _, rfl, OpnA.of (a := p8) (q := p6) ea (ga.at_ (newAt upd_same hp9)) (hL6.mono (Same.tups gt)) (hv.mono fun _ _ r => r.mono (Same.tups gt2)), S1, R, by show rest.length + 1 ≤ 30; omega, fun p' H' gg hO => q p' H' (gt2.trans gg) (by rw [W]; exact hO)⟩
    | false =>
      rw [hh] at S1 W
      refine itF rfl ⟨_, rfl, q2, b, k, lv, rfl, hq.mono (Same.tups g12), by omega, fun p6 H6 g6 hL6 => ?_⟩
      have g16 := g12.trans g6
      have e7x := g16.at_ hp
      refine ⟨_, rfl, _, rfl, _, rfl, p, _, rfl, e7x, fun p7 H7 g7 e7 => ?_⟩
      rw [cut_init rfl] at e7
      refine ⟨_, rfl, _, rfl, (by show 2 ≤ sizeLine; decide), fun p8 hp8 => ⟨(by show 1 ≤ sizeLine; decide), fun p9 hp9 => ?_⟩⟩
      have g8 := Same.then_ (Same.new (o := .tup [V.int (n : Int), V.ref p6]) hp8) (o := .tup [V.ref p8]) hp9
      refine ⟨p7, p9, _, _, rfl, rfl, g8.at_ e7, upd_same, ?_, fun pa Ha ga ea => ?_⟩
      · rw [List.length_reverse, List.length_singleton]; omega
      have gt := g7.trans (g8.trans ga)
      have gt2 := Same.trans g16 gt
      exact ⟨cells, rs, pa, _, _, rfl, OpnA.of (a := p8) (q := p6) ea (ga.at_ (newAt upd_same hp9)) (hL6.mono (Same.tups gt)) (hv.mono fun _ _ r => r.mono (Same.tups gt2)), S1, R, by show rest.length + 1 ≤ 30; omega, fun p' H' gg hO => q p' H' (gt2.trans gg) (by rw [W]; exact hO)⟩
end
end K34

set_option Elab.async false
set_option linter.all false
set_option maxRecDepth 100000
set_option maxHeartbeats 4000000
/-! D5: a standing, a step behind it. -/
namespace K34
open PySem PySem.Spec PyProof.Rows L2
open He (ga ma)
theorem SmA.at_ {H : Hp} {v : V} {s : Sm} (h : SmA H v s) : ∃ a, v = .ref a ∧ H a = some (.tup (s.map V.int)) := h
theorem doneP_runs {many : Nat} {st : PSt} (h : wordP many st = .runs) : doneP many st = true ∧ st.op ≠ [] := by
  have hne : st.op.length ≠ 0 := by
    intro z
    unfold wordP at h
    rw [if_pos z] at h
    cases h
  unfold wordP at h
  rw [if_neg hne] at h
  by_cases c : doneP many st = true
  · exact ⟨c, fun e => hne (by rw [e]; rfl)⟩
  · rw [if_neg c] at h; cases h
theorem runs_next {rs : List (List Stm)} {cells many : Nat} {st : PSt} (g : Good rs cells many st) (h : wordP many st = .runs) : ∃ s, nextP st.op = some s := by
  rcases g.set_ with e | e
  · exact absurd e (doneP_runs h).2
  · exact e
theorem b_nt {b : Bool} (h : (!b) = true) : b = false := by cases b <;> first | rfl | cases h
theorem b_nf {b : Bool} (h : ¬ (!b) = true) : b = true := by cases b <;> first | rfl | exact absurd rfl h
/-- three stores into a new instance -/
theorem mk3 {H : Hp} {x dx : Addr} {o1 o2 o3 o4 o5 : HO} (nx : H x = none) (ndx : H dx = none) : Same H (L2.upd (L2.upd (L2.upd (L2.upd (L2.upd H dx o1) x o2) x o3) x o4) x o5) :=
  Same.mut (Same.mut (Same.mut (Same.mut (Same.mut Same.refl' ndx) nx) nx) nx) nx
section
variable {P : Program} {w : World} {K : PySem.W.Frag} {mg : Str → Option Value} {base : Heap}
theorem ok_Standing_init (T : Facts w K mg) : OkM P w K mg base CX0 1 (ga K "Standing") "__init__" ["self", "opened", "held", "put"] (spStn K) := by
  refine T.d_Standing___init__.ok sc_Standing___init__ bb_Standing___init__ (fun vs H Q E h => ?_) (fun f cdv A outer s H vs Q E hr h => ?_)
  · obtain ⟨_, _, _, _, _, rfl, _⟩ := h; rfl
  obtain ⟨a, dx, o, hh, p, rfl, ha, q⟩ := h
  refine ⟨_, (pss_cons (ps_fld (pv 0) (pv 1) rfl)
      (pss_cons (ps_fld (pv 0) (pv 2) rfl)
      (pss_one (ps_fld (pv 0) (pv 3) rfl)))), ?_⟩
  refine ⟨_, rfl, _, rfl, a, _, dx, _, rfl, ha, T.cl_Standing, T.na_Standing_open_routines, (by decide), ?_⟩
  refine ⟨_, rfl, _, rfl, a, _, dx, _, rfl, upd_same, T.cl_Standing, T.na_Standing_held, (by show 1 < 1000; decide), ?_⟩
  refine ⟨_, rfl, _, rfl, a, _, dx, _, rfl, upd_same, T.cl_Standing, T.na_Standing_put, (by show 2 < 1000; decide), ?_⟩
  rw [← fStn_put] at q
  exact q
theorem ok_Standing (T : Facts w K mg) : OkC P w K mg base CX0 1 "Standing" (ga K "Standing") ["self", "opened", "held", "put"] (spStn K) := (ok_Standing_init T).cls T.mk_Standing T.g_Standing
theorem ok_begun (T : Facts w K mg) : OkF P w K mg base CX0 3 "begun" ["scene", "boxes", "begins"] (spBegun K) := by
  have G_settled := ok_settled (P := P) (base := base) T
  have C_Standing := ok_Standing (P := P) (base := base) T
  refine T.d_begun.ok sc_begun bb_begun (fun vs H Q E h => ?_) (fun f cdv A outer s H vs Q E hr h => ?_)
  · obtain ⟨_, _, _, _, _, _, _, rfl, _⟩ := h; rfl
  obtain ⟨sc, bx, u, cells, rs, zs, hd, rfl, ⟨sdx, rp, hsc, hrt⟩, R, ⟨bdx, bp, hbx, hsz⟩, z1, z4, hu, q⟩ := h
  obtain ⟨rvs, hrp, hr2⟩ := hrt.at_
  obtain ⟨bo, ebo, hbo⟩ := hr2 (n := 0) R.n1
  refine ⟨_, (pss_one (ps_ret (pe_mk C_Standing (hr.mono (by first | decide | omega)) (pa_cons (pe_cal G_settled (hr.mono (by first | decide | omega)) (pa_cons (pe_tup (pa_cons (pe_tup (pa_cons pe_int (pa_cons (pe_tup (pa_cons (pe_tup (pa_cons (pe_ix ix_tup (pe_fld (pv 0) rfl) pe_int (fun _ _ => rfl)) (pa_cons pe_int pa_nil))) pa_nil)) pa_nil))) pa_nil)) pa_nil)) (pa_cons (pv 2) (pa_cons (pe_op op_repU (pe_tup (pa_cons pe_non pa_nil)) (pe_fld (pv 1) rfl)) pa_nil)))))), ?_⟩
  refine ⟨_, rfl, sc, _, sdx, _, _, rfl, hsc, T.cl_Scene, T.na_Scene_routines, fScn_r, _, _, _, _, rfl, rfl, SqT.of hrp, atI_nat (j := 0) ebo, ?_⟩
  refine ⟨(by show 2 ≤ sizeLine; decide), fun p1 hp1 => ⟨(by show 1 ≤ sizeLine; decide), fun p2 hp2 => ⟨(by show 2 ≤ sizeLine; decide), fun p3 hp3 => ⟨(by show 1 ≤ sizeLine; decide), fun p4 hp4 => ?_⟩⟩⟩⟩
  have g2 := Same.then_ (Same.new (o := .tup [V.ref bo, V.int 0]) hp1) (o := .tup [V.ref p1]) hp2
  have g3 := Same.then_ (Same.new (o := .tup [V.int 0, V.ref p2]) hp3) (o := .tup [V.ref p3]) hp4
  have g4 := g2.trans g3
  refine ⟨cells, rs, p4, [(0, [(rs.getD 0 [], 0)])], [(0, 0)], rfl, OpnA.of (vs := []) (a := p3) (q := p2) upd_same (newAt upd_same hp4) (LvsA.new1 (p2 := p1) (hbo.mono (Same.tups g4)) (g3.at_ (newAt upd_same hp2)) (g3.at_ upd_same)) .nil, .cons R.n1 At.first .nil, R, by simp, fun p5 H5 g5 hO5 => ?_⟩
  have g45 := g4.trans g5
  refine ⟨_, rfl, (by show 1 ≤ sizeLine; decide), fun p6 hp6 => ?_⟩
  have g6 := Same.then_ g45 (o := .tup [V.non]) hp6
  refine ⟨_, rfl, bx, _, bdx, _, _, rfl, g6.at_ hbx, T.cl_Boxes, T.na_Boxes_many, fBox_m, p6, (zs.length : Int), .non, rfl, rfl, upd_same, by omega, by omega, fun p7 H7 g7 e7 => ?_⟩
  have g67 := g6.trans g7
  have g57 : Same H5 H7 := Same.trans (Same.new hp6) g7
  intro x dx nx ndx ne
  have gx := mk3 (o1 := .own x) (o2 := .ins (ga K "Standing") dx []) (o3 := .ins (ga K "Standing") dx [("open_routines", .ref p5)]) (o4 := .ins (ga K "Standing") dx [("open_routines", .ref p5), ("held", u)]) (o5 := .ins (ga K "Standing") dx (fStn (.ref p5) u (.ref p7))) nx ndx
  refine ⟨x, dx, .ref p5, u, .ref p7, rfl, upd_same, rfl, ?_⟩
  refine q _ _ (g67.trans gx) ⟨x, dx, p5, u, .ref p7, rfl, upd_same, hO5.mono (Same.tups (g57.trans gx)), hu.mono (Same.tups (g67.trans gx)), p7, _, rfl, gx.at_ e7, ?_⟩
  show All2 _ (List.replicate (zs.length : Int).toNat V.non) (List.replicate zs.length none)
  rw [Int.toNat_natCast]
  generalize zs.length = m
  induction m with
  | zero => exact .nil
  | succ m ih => rw [List.replicate_succ, List.replicate_succ]; exact .cons rfl ih
theorem ok_changed (T : Facts w K mg) : OkF P w K mg base CX0 1 "changed" ["row", "at", "item"] spChg := by
  refine T.d_changed.ok sc_changed bb_changed (fun vs H Q E h => ?_) (fun f cdv A outer s H vs Q E hr h => ?_)
  · obtain ⟨_, _, _, _, rfl, _⟩ := h; rfl
  obtain ⟨a, k, v, xs, rfl, ha, hk, hl, q⟩ := h
  refine ⟨_, (pss_one (ps_ret (pe_op op_catU (pe_op op_catU (pe_slice sl_tupU (pv 0) po_none (po_some (pv 1))) (pe_tup (pa_cons (pv 2) pa_nil))) (pe_slice sl_tupU (pv 0) (po_some (pe_op op_add (pv 1) pe_int)) po_none)))), ?_⟩
  refine ⟨_, rfl, _, rfl, _, rfl, a, _, rfl, ha, fun p1 H1 g1 e1 => ?_⟩
  rw [cut_to (by omega)] at e1
  refine ⟨_, rfl, (by show 1 ≤ sizeLine; decide), fun p2 hp2 => ?_⟩
  have g2 : Same H1 (upd H1 p2 (.tup [v])) := Same.new hp2
  refine ⟨p1, p2, _, _, rfl, rfl, g2.at_ e1, upd_same, ?_, fun p3 H3 g3 e3 => ?_⟩
  · rw [List.length_take, List.length_singleton]; omega
  have g13 := g1.trans (g2.trans g3)
  refine ⟨_, rfl, _, rfl, _, _, rfl, rfl, _, rfl, a, _, rfl, g13.at_ ha, fun p4 H4 g4 e4 => ?_⟩
  rw [cut_from (k := k + 1) (by omega) (by omega)] at e4
  refine ⟨p3, p4, _, _, rfl, rfl, g4.at_ e3, e4, ?_, fun p5 H5 g5 e5 => q p5 H5 (g13.trans (g4.trans g5)) ?_⟩
  · rw [List.length_append, List.length_take, List.length_drop, List.length_singleton]; omega
  · rw [e5, set_cut hk]
theorem PosA.get {H : Hp} {v : V} {pos : List (Option (Int × Int))} (h : PosA H v pos) : ∃ a vs, v = .ref a ∧ H a = some (.tup vs) ∧ vs.length = pos.length ∧ ∀ {k : Nat}, k < pos.length → ∃ x, vs[k]? = some x ∧ PlA H x (pos.getD k none) := by
  obtain ⟨a, vs, e, e2, hx⟩ := h
  refine ⟨a, vs, e, e2, hx.len, fun {k} hk => ?_⟩
  obtain ⟨x, e3, r⟩ := hx.get (List.getElem?_eq_getElem hk)
  refine ⟨x, e3, ?_⟩
  rw [List.getD_eq_getElem?_getD, List.getElem?_eq_getElem hk]
  exact r
theorem SizA.get {H : Hp} {p : Addr} {zs : List (Int × Int)} (h : SizA H p zs) : ∃ vs, H p = some (.tup vs) ∧ vs.length = zs.length ∧ ∀ {k : Nat}, k < zs.length → ∃ a, vs[k]? = some (.ref a) ∧ H a = some (.tup [.int (zs.getD k (0, 0)).1, .int (zs.getD k (0, 0)).2]) := by
  obtain ⟨vs, e, hx⟩ := h
  refine ⟨vs, e, hx.len, fun {k} hk => ?_⟩
  obtain ⟨x, e3, a, rfl, r⟩ := hx.get (List.getElem?_eq_getElem hk)
  refine ⟨a, e3, ?_⟩
  rw [List.getD_eq_getElem?_getD, List.getElem?_eq_getElem hk]
  exact r
theorem ok_asked_of (T : Facts w K mg) : OkF P w K mg base CX0 1 "asked_of" ["boxes", "put", "word", "box"] (spAsked K) := by
  refine T.d_asked_of.ok sc_asked_of bb_asked_of (fun vs H Q E h => ?_) (fun f cdv A outer s H vs Q E hr h => ?_)
  · obtain ⟨_, _, _, _, _, _, rfl, _⟩ := h; rfl
  obtain ⟨bx, v, zs, pos, wd, k, rfl, ⟨bdx, bp, hbx, hsz⟩, hpos, hk, hw, q⟩ := h
  obtain ⟨zvs, hbp, zl, hz⟩ := hsz.get
  obtain ⟨za, ez, hza⟩ := hz hk
  refine ⟨_, (pss_cons (ps_if (pt_cmpR op_in_seq (pv 2) (pe_tup (pa_cons (pe_gs T.c_WIDTH) (pa_cons (pe_gs T.c_HEIGHT) pa_nil))) rfl) (pss_one (ps_ret (pe_ix ix_tup (pe_ix ix_tup (pe_fld (pv 0) rfl) (pv 3) (fun _ _ => rfl)) (pe_ifExp (pt_cmpR op_eq (pv 2) (pe_gs T.c_WIDTH) (nomark _)) pe_int pe_int) (fun _ _ => rfl)))) pss_nil)
      (pss_one (ps_ret (pe_ix ix_tup (pe_ix ix_tup (pv 1) (pv 3) (fun _ _ => rfl)) (pe_ifExp (pt_cmpR op_eq (pv 2) (pe_gs T.c_LEFT) (nomark _)) pe_int pe_int) (fun _ _ => rfl))))), ?_⟩
  refine ⟨_, rfl, (by show 2 ≤ sizeLine; decide), fun l1 hl1 => ⟨l1, _, rfl, .inr (SqT.of upd_same), rfl, rfl, _, rfl, ?_⟩⟩
  have g1 : Same H (upd H l1 (.tup [V.str "width", V.str "height"])) := Same.new hl1
  by_cases c : wd = .width ∨ wd = .height
  · refine itT (by rcases c with rfl | rfl <;> decide +kernel) ?_
    refine ⟨_, rfl, bx, _, bdx, _, _, rfl, g1.at_ hbx, T.cl_Boxes, T.na_Boxes_sizes, fBox_s, _, rfl, _, _, _, _, rfl, rfl, SqT.of (g1.at_ hbp), atI_nat ez, _, rfl, rfl, _, rfl, ?_⟩
    rcases c with rfl | rfl
    · exact itT (by decide +kernel) ⟨_, _, _, _, rfl, rfl, SqT.of (g1.at_ hza), atI_nat (j := 0) rfl, q _ g1⟩
    · exact itF (by decide +kernel) ⟨_, _, _, _, rfl, rfl, SqT.of (g1.at_ hza), atI_nat (j := 1) rfl, q _ g1⟩
  · have ⟨z, hz2⟩ : ∃ z, pos[k]? = some (some z) := by
      rcases hw with e | e | e
      · exact absurd (.inl e) c
      · exact absurd (.inr e) c
      · exact e
    obtain ⟨pa, pvs, rfl, hpa, pl⟩ := hpos
    obtain ⟨x, ex, ha⟩ := pl.get hz2
    obtain ⟨xa, rfl, hxa⟩ := ha
    have ed : pos.getD k none = some z := by rw [List.getD_eq_getElem?_getD, hz2]; rfl
    cases wd with
    | width => exact absurd (.inl rfl) c
    | height => exact absurd (.inr rfl) c
    | left =>
      refine itF (by decide +kernel) ⟨_, rfl, _, rfl, _, _, _, _, rfl, rfl, SqT.of (g1.at_ hpa), atI_nat ex, _, rfl, rfl, _, rfl, itT (by decide +kernel) ⟨_, _, _, _, rfl, rfl, SqT.of (g1.at_ hxa), atI_nat (j := 0) rfl, ?_⟩⟩
      have := q _ g1
      unfold askedP at this
      rw [ed] at this
      exact this
    | top =>
      refine itF (by decide +kernel) ⟨_, rfl, _, rfl, _, _, _, _, rfl, rfl, SqT.of (g1.at_ hpa), atI_nat ex, _, rfl, rfl, _, rfl, itF (by decide +kernel) ⟨_, _, _, _, rfl, rfl, SqT.of (g1.at_ hxa), atI_nat (j := 1) rfl, ?_⟩⟩
      have := q _ g1
      unfold askedP at this
      rw [ed] at this
      exact this
theorem ok_is_done (T : Facts w K mg) : OkF P w K mg base CX0 4 "is_done" ["boxes", "standing"] (spDone K) := by
  have G_is_below := ok_is_below (P := P) (base := base) T
  have G_value_of := ok_value_of (P := P) (base := base) T
  have G_next_of := ok_next_of (P := P) (base := base) T
  refine T.d_is_done.ok sc_is_done bb_is_done (fun vs H Q E h => ?_) (fun f cdv A outer s H vs Q E hr h => ?_)
  · obtain ⟨_, _, _, _, _, _, _, rfl, _⟩ := h; rfl
  obtain ⟨bx, v, cells, rs, zs, st, sm, rfl, ⟨bdx, bp, hbx, hsz⟩, ⟨a, dx, po, vh, vp, rfl, ha, hO, hh, hP⟩, O, hn, q⟩ := h
  obtain ⟨l, S⟩ := O.g.sim
  have ok := S.ok hn O.R.ok
  have hf := O.g.few
  have hgh := O.g.held
  have hgp := O.g.pos
  have c5 := O.c5
  refine ⟨_, (pss_cons (ps_set (i := 2) sc_is_done.nd rfl (Or.inl rfl) (pe_cal G_next_of (hr.mono (by first | decide | omega)) (pa_cons (pe_fld (pv 1) rfl) pa_nil)))
      (pss_cons (ps_if (pt_cmpR op_eq (pe_ix ix_tup (pv 2) pe_int (fun _ _ => rfl)) (pe_gs T.c_CALL) (nomark _)) (pss_one (ps_ret (pe_cmpR op_lt (pe_callB call_len_seq (by rfl) T.b_len PySem.boot_len (pa_cons (pe_fld (pv 1) rfl) pa_nil)) (pe_gi T.c_MOST_OPEN) (nomark _)))) pss_nil)
      (pss_cons (ps_if (pt_cmpR op_notIn_seq (pe_ix ix_tup (pv 2) pe_int (fun _ _ => rfl)) (pe_tup (pa_cons (pe_gs T.c_PUT) (pa_cons (pe_gs T.c_ASK) pa_nil))) rfl) (pss_one (ps_ret pe_bl)) pss_nil)
      (pss_cons (ps_set (i := 3) sc_is_done.nd rfl (Or.inl rfl) (pe_cal G_value_of (hr.mono (by first | decide | omega)) (pa_cons (pe_ifExp (pt_cmpR op_eq (pe_ix ix_tup (pv 2) pe_int (fun _ _ => rfl)) (pe_gs T.c_PUT) (nomark _)) (pe_ix ix_tup (pv 2) pe_int (fun _ _ => rfl)) (pe_ix ix_tup (pv 2) pe_int (fun _ _ => rfl))) (pa_cons (pe_fld (pv 1) rfl) pa_nil))))
      (pss_cons (ps_if (pt_not (pt_val (pe_cal G_is_below (hr.mono (by first | decide | omega)) (pa_cons (pv 3) (pa_cons (pe_fld (pv 0) rfl) pa_nil))))) (pss_one (ps_ret pe_bl)) pss_nil)
      (pss_one (ps_ret (pe_or (pe_cmpR op_eq (pe_ix ix_tup (pv 2) pe_int (fun _ _ => rfl)) (pe_gs T.c_PUT) (nomark _)) (pe_or (pe_cmpR op_in_seq (pe_ix ix_tup (pv 2) pe_int (fun _ _ => rfl)) (pe_tup (pa_cons (pe_gs T.c_WIDTH) (pa_cons (pe_gs T.c_HEIGHT) pa_nil))) rfl) (pe_one (pe_cmpR op_notN (pe_ix ix_tup (pe_fld (pv 1) rfl) (pv 3) (fun _ _ => rfl)) pe_non (nomark _)))))))))))), ?_⟩
  refine ⟨_, rfl, a, _, dx, _, _, rfl, ha, T.cl_Standing, T.na_Standing_open_routines, fStn_o, po, st.op, sm, rfl, hO, hn, fun sv hs => ?_⟩
  obtain ⟨a0, xs0, rfl, ha0⟩ := hs.head
  obtain ⟨ovs, hop, hov⟩ := id hO
  have ol := hov.len
  refine ⟨_, rfl, _, _, _, _, rfl, rfl, SqT.of (ha0), atI_nat (j := 0) rfl, rfl, _, rfl, ?_⟩
  unfold doneP at q
  rw [hn] at q
  cases sm with
  | call r =>
    refine itT (by rw [dec_call]) ⟨_, rfl, a, _, dx, _, _, rfl, ha, T.cl_Standing, T.na_Standing_open_routines, fStn_o, po, _, rfl, .inr (SqT.of hop), _, _, rfl, rfl, ?_⟩
    have := q _ Same.refl'
    have e : decide (((ovs.reverse).length : Int) < 20) = decide (st.op.length < 20) := decide_eq_decide.mpr (by rw [List.length_reverse, ol]; omega)
    rw [← e] at this
    exact this
  | set c z =>
    refine itF (by rw [dec_call]) ?_
    refine ⟨_, rfl, _, _, _, _, rfl, rfl, SqT.of (ha0), atI_nat (j := 0) rfl, (by show 2 ≤ sizeLine; decide), fun l1 hl1 => ⟨l1, _, rfl, .inr (SqT.of upd_same), rfl, rfl, _, rfl, itT ?_ (q _ (Same.new hl1))⟩⟩
    rw [if_pos rfl, inv_pa]; rfl
  | ite t y n =>
    refine itF (by rw [dec_call]) ?_
    refine ⟨_, rfl, _, _, _, _, rfl, rfl, SqT.of (ha0), atI_nat (j := 0) rfl, (by show 2 ≤ sizeLine; decide), fun l1 hl1 => ⟨l1, _, rfl, .inr (SqT.of upd_same), rfl, rfl, _, rfl, itT ?_ (q _ (Same.new hl1))⟩⟩
    rw [if_pos rfl, inv_pa]; rfl
  | whl t y =>
    refine itF (by rw [dec_call]) ?_
    refine ⟨_, rfl, _, _, _, _, rfl, rfl, SqT.of (ha0), atI_nat (j := 0) rfl, (by show 2 ≤ sizeLine; decide), fun l1 hl1 => ⟨l1, _, rfl, .inr (SqT.of upd_same), rfl, rfl, _, rfl, itT ?_ (q _ (Same.new hl1))⟩⟩
    rw [if_pos rfl, inv_pa]; rfl
  | put bs x y =>
    rw [StA] at hs
    obtain ⟨a0', p1, p2, p3, eq, hst, hb, hx, hy⟩ := hs
    cases eq
    rw [OkS] at ok
    refine itF (by rw [dec_call]) ?_
    refine ⟨_, rfl, _, _, _, _, rfl, rfl, SqT.of (hst), atI_nat (j := 0) rfl, (by show 2 ≤ sizeLine; decide), fun l1 hl1 => ⟨l1, _, rfl, .inr (SqT.of upd_same), rfl, rfl, _, rfl, itF ?_ ?_⟩⟩
    · rw [if_pos rfl]; decide +kernel
    have g1 : Same H (upd H l1 (.tup [V.str "put", V.str "ask"])) := Same.new hl1
    refine ⟨_, rfl, _, _, _, _, rfl, rfl, SqT.of (g1.at_ hst), atI_nat (j := 0) rfl, rfl, _, rfl, itT (by decide +kernel) ⟨_, rfl, _, _, _, _, rfl, rfl, SqT.of (g1.at_ hst), atI_nat (j := 1) rfl, _, rfl, a, _, dx, _, _, rfl, g1.at_ ha, T.cl_Standing, T.na_Standing_held, fStn_h, _, _, bs, st.held, rfl, hb.mono (Same.tups g1), hh.mono (Same.tups g1), by rw [hgh]; exact ok.1.1, by omega, ok.1.2, fun H2 g2 => ?_⟩⟩
    have g12 := g1.trans g2
    refine ⟨_, rfl, _, rfl, bx, _, bdx, _, _, rfl, g12.at_ hbx, T.cl_Boxes, T.na_Boxes_many, fBox_m, _, _, rfl, _, rfl, ?_⟩
    have := q _ g12
    dsimp only at this
    refine ite2 (fun c => ?_) (fun c => ?_)
    · have c : decide (0 ≤ val bs st.held ∧ val bs st.held < (zs.length : Int)) = false := b_nt c
      rw [c] at this
      exact this
    · have c : decide (0 ≤ val bs st.held ∧ val bs st.held < (zs.length : Int)) = true := b_nf c
      rw [c] at this
      exact ⟨_, rfl, _, _, _, _, rfl, rfl, SqT.of (g12.at_ hst), atI_nat (j := 0) rfl, rfl, _, rfl, itT (by decide +kernel) this⟩
  | ask k wd z =>
    rw [StA] at hs
    obtain ⟨a0', p1, eq, hst, hb⟩ := hs
    cases eq
    rw [OkS] at ok
    refine itF (by rw [dec_call]) ?_
    refine ⟨_, rfl, _, _, _, _, rfl, rfl, SqT.of (hst), atI_nat (j := 0) rfl, (by show 2 ≤ sizeLine; decide), fun l1 hl1 => ⟨l1, _, rfl, .inr (SqT.of upd_same), rfl, rfl, _, rfl, itF ?_ ?_⟩⟩
    · rw [if_pos rfl]; decide +kernel
    have g1 : Same H (upd H l1 (.tup [V.str "put", V.str "ask"])) := Same.new hl1
    refine ⟨_, rfl, _, _, _, _, rfl, rfl, SqT.of (g1.at_ hst), atI_nat (j := 0) rfl, rfl, _, rfl, itF (by decide +kernel) ⟨_, rfl, _, _, _, _, rfl, rfl, SqT.of (g1.at_ hst), atI_nat (j := 3) rfl, _, rfl, a, _, dx, _, _, rfl, g1.at_ ha, T.cl_Standing, T.na_Standing_held, fStn_h, _, _, z, st.held, rfl, hb.mono (Same.tups g1), hh.mono (Same.tups g1), by rw [hgh]; exact ok.2.1, by omega, ok.2.2, fun H2 g2 => ?_⟩⟩
    have g12 := g1.trans g2
    refine ⟨_, rfl, _, rfl, bx, _, bdx, _, _, rfl, g12.at_ hbx, T.cl_Boxes, T.na_Boxes_many, fBox_m, _, _, rfl, _, rfl, ?_⟩
    refine ite2 (fun c => ?_) (fun c => ?_)
    · have c : decide (0 ≤ val z st.held ∧ val z st.held < (zs.length : Int)) = false := b_nt c
      have := q _ g12
      dsimp only at this
      rw [c] at this
      exact this
    · have c0 : decide (0 ≤ val z st.held ∧ val z st.held < (zs.length : Int)) = true := b_nf c
      have c1 := of_decide_eq_true c0
      refine ⟨_, rfl, _, _, _, _, rfl, rfl, SqT.of (g12.at_ hst), atI_nat (j := 0) rfl, rfl, _, rfl, itF (by decide +kernel) ?_⟩
      refine ⟨_, rfl, _, _, _, _, rfl, rfl, SqT.of (g12.at_ hst), atI_nat (j := 2) rfl, (by show 2 ≤ sizeLine; decide), fun l3 hl3 => ⟨l3, _, rfl, .inr (SqT.of upd_same), rfl, rfl, _, rfl, ?_⟩⟩
      have g3 := Same.then_ g12 (o := .tup [V.str "width", V.str "height"]) hl3
      have := q _ g3
      dsimp only at this
      rw [c0] at this
      obtain ⟨pa, pvs, rfl, hpa, pvl, hpg⟩ := PosA.get hP
      have hkn : (val z st.held).toNat < st.pos.length := by omega
      obtain ⟨x, ex, hx⟩ := hpg hkn
      have ek : val z st.held = (((val z st.held).toNat : Nat) : Int) := by omega
      have last : (st.pos.getD (val z st.held).toNat none).isSome = !decide (x = V.non) := by
        cases e : st.pos.getD (val z st.held).toNat none with
        | none => rw [e] at hx; have hx : x = V.non := hx; rw [hx]; rfl
        | some y => rw [e] at hx; obtain ⟨xa, rfl, _⟩ := hx; rfl
      cases wd with
      | width => exact itT (by decide +kernel) this
      | height => exact itT (by decide +kernel) this
      | left =>
        refine itF (by decide +kernel) ⟨_, rfl, a, _, dx, _, _, rfl, g3.at_ ha, T.cl_Standing, T.na_Standing_put, fStn_p, _, rfl, _, _, _, _, rfl, rfl, SqT.of (g3.at_ hpa), at_ix ek ex, rfl, ?_⟩
        rw [last] at this
        exact this
      | top =>
        refine itF (by decide +kernel) ⟨_, rfl, a, _, dx, _, _, rfl, g3.at_ ha, T.cl_Standing, T.na_Standing_put, fStn_p, _, rfl, _, _, _, _, rfl, rfl, SqT.of (g3.at_ hpa), at_ix ek ex, rfl, ?_⟩
        rw [last] at this
        exact this
theorem ok_word_of (T : Facts w K mg) : OkF P w K mg base CX0 5 "word_of" ["boxes", "standing"] (spWord K) := by
  have G_is_done := ok_is_done (P := P) (base := base) T
  refine T.d_word_of.ok sc_word_of bb_word_of (fun vs H Q E h => ?_) (fun f cdv A outer s H vs Q E hr h => ?_)
  · obtain ⟨_, _, _, _, _, _, rfl, _⟩ := h; rfl
  obtain ⟨bx, v, cells, rs, zs, st, rfl, hbx, hS, O, q⟩ := h
  obtain ⟨a, dx, po, vh, vp, rfl, ha, hO, hh, hP⟩ := id hS
  obtain ⟨ovs, hop, hov⟩ := id hO
  have ol := hov.len
  refine ⟨_, (pss_cons (ps_if (pt_cmpR op_eq (pe_callB call_len_seq (by rfl) T.b_len PySem.boot_len (pa_cons (pe_fld (pv 1) rfl) pa_nil)) pe_int (nomark _)) (pss_one (ps_ret (pe_gs T.c_OVER))) pss_nil)
      (pss_one (ps_ret (pe_ifExp (pt_val (pe_cal G_is_done (hr.mono (by first | decide | omega)) (pa_cons (pv 0) (pa_cons (pv 1) pa_nil)))) (pe_gs T.c_RUNS) (pe_gs T.c_FAULT))))), ?_⟩
  refine ⟨_, rfl, a, _, dx, _, _, rfl, ha, T.cl_Standing, T.na_Standing_open_routines, fStn_o, po, _, rfl, .inr (SqT.of hop), rfl, _, rfl, ?_⟩
  unfold wordP at q
  by_cases c : st.op.length = 0
  · rw [if_pos c] at q
    exact itT (decide_eq_true (by rw [List.length_reverse, ol, c]; rfl)) (q _ Same.refl')
  · rw [if_neg c] at q
    have hnx : ∃ s, nextP st.op = some s := by
      rcases O.g.set_ with e | e
      · rw [e] at c; exact absurd rfl c
      · exact e
    obtain ⟨sm, hn⟩ := hnx
    refine itF (decide_eq_false ?_) ⟨_, rfl, _, rfl, bx, _, cells, rs, zs, st, sm, rfl, hbx, hS, O, hn, fun H1 g1 => ⟨_, rfl, ?_⟩⟩
    · intro z
      have := V.int.inj z
      rw [List.length_reverse, ol] at this
      omega
    · have := q _ g1
      cases e : doneP zs.length st with
      | true => rw [e] at this; exact itT rfl this
      | false => rw [e] at this; exact itF rfl this
end
end K34

set_option Elab.async false
set_option linter.all false
set_option maxRecDepth 100000
set_option maxHeartbeats 4000000
/-! D6: a step; the runner. -/
namespace K34
open PySem PySem.Spec PyProof.Rows L2
open He (ga ma)
/-- f(e, ..) that may raise through -/
def tCalW (sp : Sp) (W : WX) (t : TA) : TE := fun σ H Q => t σ H fun vs H1 => sp vs H1 Q (WE W σ)
theorem pe_calW {X : Cx} {k : Nat} {x : Str} {ps : List Str} {sp : Sp} {p pos : Pos} {e : Expr} {es : List Expr} {t : TA} {W : WX} (F : OkF X.prog X.w X.K X.mg X.base (L2.CX X.prog X.w) k x ps sp) (hr : Room k X.A) (tk : Takes X W) (ha : PA X (e :: es) t) (hg : Gl X x := by rfl) (hdb : (x == ("__debug__" : Str)) = false := by decide)
    (he : starEach (e :: es) X.env = (false, eval e X.env) :: starEach es X.env := by rfl) (hpl : (backTo pos (starEach es X.env)).any (·.1) = false := by rfl) :
    PE X (.Call (.Name x p) (e :: es) [] pos) (tCalW sp W t) := by
  obtain ⟨f, fd, G, hb, hk, hm⟩ := F.ex
  refine ⟨fun pins s σ H Q I h => ?_⟩
  refine wpAny_Call_Name_kw (ld_glob I hg hm ?_ hdb)
  refine PySem.W.callWith_K (h₀ := X.base) I.ok.mod.kin hk (thn (ha.run pos pins s σ H _ I h) fun us s1 ⟨vs, H1, I1, r, q⟩ => ⟨I1.kIn, ?_⟩) he hpl
  exact run_at G hr hb (passAt tk σ) I1 r q
theorem map_set (l : List Int) (k : Nat) (x : Int) : (l.map V.int).set k (.int x) = (l.set k x).map V.int := by
  rw [List.map_set]
theorem behind_set {rs : List (List Stm)} {zs : List (Int × Int)} {st : PSt} {c : Nat} {s : Sm} (h : nextP st.op = some (.set c s)) : behindP rs zs st = ⟨walkedP rs st.op st.held, st.held.set c (val s st.held), st.pos⟩ := by unfold behindP; rw [h]
theorem behind_put {rs : List (List Stm)} {zs : List (Int × Int)} {st : PSt} {b x y : Sm} (h : nextP st.op = some (.put b x y)) : behindP rs zs st = ⟨walkedP rs st.op st.held, st.held, st.pos.set (val b st.held).toNat (some (val x st.held, val y st.held))⟩ := by unfold behindP; rw [h]
theorem behind_ask {rs : List (List Stm)} {zs : List (Int × Int)} {st : PSt} {c : Nat} {w : Wd} {s : Sm} (h : nextP st.op = some (.ask c w s)) : behindP rs zs st = ⟨walkedP rs st.op st.held, st.held.set c (askedP zs st.pos w (val s st.held).toNat), st.pos⟩ := by unfold behindP; rw [h]
theorem behind_else {rs : List (List Stm)} {zs : List (Int × Int)} {st : PSt} {s : Stm} (h : nextP st.op = some s) (n : (match s with | .set _ _ => false | .put _ _ _ => false | .ask _ _ _ => false | _ => true) = true) : behindP rs zs st = ⟨walkedP rs st.op st.held, st.held, st.pos⟩ := by
  unfold behindP
  rw [h]
  cases s <;> first | rfl | cases n
/-- what a step's «can be done» says of a put, an ask -/
theorem done_put {many : Nat} {st : PSt} {b x y : Sm} (h : nextP st.op = some (.put b x y)) (d : doneP many st = true) : 0 ≤ val b st.held ∧ val b st.held < many := by
  unfold doneP at d
  rw [h] at d
  exact of_decide_eq_true d
theorem done_ask {many : Nat} {st : PSt} {c : Nat} {w : Wd} {s : Sm} (h : nextP st.op = some (.ask c w s)) (d : doneP many st = true) : (0 ≤ val s st.held ∧ val s st.held < many) ∧ (w = .width ∨ w = .height ∨ (st.pos.getD (val s st.held).toNat none).isSome = true) := by
  unfold doneP at d
  rw [h] at d
  dsimp only at d
  rw [Bool.and_eq_true, Bool.or_eq_true, Bool.or_eq_true] at d
  obtain ⟨d1, d2⟩ := d
  refine ⟨of_decide_eq_true d1, ?_⟩
  rcases d2 with (e | e) | e
  · exact .inl (of_decide_eq_true e)
  · exact .inr (.inl (of_decide_eq_true e))
  · exact .inr (.inr e)
section
variable {P : Program} {w : World} {K : PySem.W.Frag} {mg : Str → Option Value} {base : Heap}
theorem ok_behind_step (T : Facts w K mg) : OkF P w K mg base CX0 4 "behind_step" ["scene", "boxes", "standing"] (spBehind K) := by
  have G_walked_on := ok_walked_on (P := P) (base := base) T
  have G_next_of := ok_next_of (P := P) (base := base) T
  have G_value_of := ok_value_of (P := P) (base := base) T
  have G_changed := ok_changed (P := P) (base := base) T
  have G_asked_of := ok_asked_of (P := P) (base := base) T
  have C_Standing := ok_Standing (P := P) (base := base) T
  refine T.d_behind_step.ok sc_behind_step bb_behind_step (fun vs H Q E h => ?_) (fun f cdv A outer s H vs Q E hr h => ?_)
  · obtain ⟨_, _, _, _, _, _, _, rfl, _⟩ := h; rfl
  obtain ⟨sc, bx, v, cells, rs, zs, st, rfl, hsc, hbx, hS, O, hw, q⟩ := h
  obtain ⟨sm, hn⟩ := runs_next O.g hw
  have hdone := (doneP_runs hw).1
  obtain ⟨a, dx, po, vh, vp, rfl, ha, hO, hh, hP⟩ := id hS
  obtain ⟨l, S⟩ := O.g.sim
  have ok := S.ok hn O.R.ok
  have hf := O.g.few
  have hgh := O.g.held
  have hgp := O.g.pos
  have c5 := O.c5
  have m4 := O.m4
  refine ⟨_, (pss_cons (ps_asg (pe_tup (pa_cons (pe_cal G_next_of (hr.mono (by first | decide | omega)) (pa_cons (pe_fld (pv 2) rfl) pa_nil)) (pa_cons (pe_fld (pv 2) rfl) (pa_cons (pe_fld (pv 2) rfl) pa_nil)))) (pg_tup rfl (pgs_cons (pg_name (i := 3) sc_behind_step.nd rfl (Or.inl rfl)) (pgs_cons (pg_name (i := 4) sc_behind_step.nd rfl (Or.inr rfl)) (pgs_cons (pg_name (i := 5) sc_behind_step.nd rfl (Or.inl rfl)) pgs_nil)))))
      (pss_cons (ps_set (i := 6) sc_behind_step.nd rfl (Or.inl rfl) (pe_cal G_walked_on (hr.mono (by first | decide | omega)) (pa_cons (pv 0) (pa_cons (pe_fld (pv 2) rfl) (pa_cons (pv 4) pa_nil)))))
      (pss_cons (ps_if (pt_cmpR op_eq (pe_ix ix_tup (pv 3) pe_int (fun _ _ => rfl)) (pe_gs T.c_SET) (nomark _)) (pss_one (ps_set (i := 4) sc_behind_step.nd rfl (Or.inr rfl) (pe_cal G_changed (hr.mono (by first | decide | omega)) (pa_cons (pv 4) (pa_cons (pe_ix ix_tup (pv 3) pe_int (fun _ _ => rfl)) (pa_cons (pe_cal G_value_of (hr.mono (by first | decide | omega)) (pa_cons (pe_ix ix_tup (pv 3) pe_int (fun _ _ => rfl)) (pa_cons (pv 4) pa_nil))) pa_nil)))))) (pss_one (ps_if (pt_cmpR op_eq (pe_ix ix_tup (pv 3) pe_int (fun _ _ => rfl)) (pe_gs T.c_PUT) (nomark _)) (pss_cons (ps_asg (pe_lc (own := [("part", 10)]) (g := (gName 10)) (tt := tYes) rfl sc_behind_step.nd (pi_tup (pe_slice sl_tupU (pv 3) (po_some pe_int) po_none)) (blkOk_by (N := N_behind_step) (sc := defScope s_behind_step) (by decide +kernel)) (fun _ _ _ _ _ => (pg_name (i := 10) sc_behind_step.nd rfl (Or.inl rfl))) (fun _ _ _ _ _ => pts_nil) (fun _ _ _ _ _ => (pe_cal G_value_of (hr.mono (by first | decide | omega)) (pa_cons (pv 10) (pa_cons (pv 4) pa_nil))))) (pg_lst rfl (pgs_cons (pg_name (i := 7) sc_behind_step.nd rfl (Or.inl rfl)) (pgs_cons (pg_name (i := 8) sc_behind_step.nd rfl (Or.inl rfl)) (pgs_cons (pg_name (i := 9) sc_behind_step.nd rfl (Or.inl rfl)) pgs_nil)))))
      (pss_one (ps_set (i := 5) sc_behind_step.nd rfl (Or.inl rfl) (pe_cal G_changed (hr.mono (by first | decide | omega)) (pa_cons (pv 5) (pa_cons (pv 7) (pa_cons (pe_tup (pa_cons (pv 8) (pa_cons (pv 9) pa_nil))) pa_nil))))))) (pss_one (ps_if (pt_cmpR op_eq (pe_ix ix_tup (pv 3) pe_int (fun _ _ => rfl)) (pe_gs T.c_ASK) (nomark _)) (pss_one (ps_set (i := 4) sc_behind_step.nd rfl (Or.inr rfl) (pe_cal G_changed (hr.mono (by first | decide | omega)) (pa_cons (pv 4) (pa_cons (pe_ix ix_tup (pv 3) pe_int (fun _ _ => rfl)) (pa_cons (pe_cal G_asked_of (hr.mono (by first | decide | omega)) (pa_cons (pv 1) (pa_cons (pv 5) (pa_cons (pe_ix ix_tup (pv 3) pe_int (fun _ _ => rfl)) (pa_cons (pe_cal G_value_of (hr.mono (by first | decide | omega)) (pa_cons (pe_ix ix_tup (pv 3) pe_int (fun _ _ => rfl)) (pa_cons (pv 4) pa_nil))) pa_nil))))) pa_nil)))))) pss_nil)))))
      (pss_one (ps_ret (pe_mk C_Standing (hr.mono (by first | decide | omega)) (pa_cons (pv 6) (pa_cons (pv 4) (pa_cons (pv 5) pa_nil))))))))), ?_⟩
  refine ⟨_, rfl, a, _, dx, _, _, rfl, ha, T.cl_Standing, T.na_Standing_open_routines, fStn_o, po, st.op, sm, rfl, hO, hn, fun sv hs => ?_⟩
  refine ⟨_, rfl, a, _, dx, _, _, rfl, ha, T.cl_Standing, T.na_Standing_held, fStn_h, _, rfl, a, _, dx, _, _, rfl, ha, T.cl_Standing, T.na_Standing_put, fStn_p, (by show 3 ≤ sizeLine; decide), fun t0 ht0 => ?_⟩
  refine ⟨_, _, rfl, SqT.of upd_same, rfl, _, _, rfl, _, _, rfl, _, _, rfl, rfl, ?_⟩
  have g0 : Same H (upd H t0 (.tup [sv, vh, vp])) := Same.new ht0
  refine ⟨_, rfl, _, rfl, a, _, dx, _, _, rfl, g0.at_ ha, T.cl_Standing, T.na_Standing_open_routines, fStn_o, _, rfl, ?_⟩
  refine ⟨sc, po, vh, cells, rs, st.op, l, sm, st.held, rfl, hsc.mono (Same.kp g0), O.R, c5, hO.mono (Same.tups g0), S, hn, hf, hh.mono (Same.tups g0), hgh, fun po' H1 g1 hO' => ?_⟩
  have g01 := g0.trans g1
  have hs1 := StA.mono (Same.tups g01) _ _ hs
  obtain ⟨a0, xs0, rfl, ha0⟩ := hs1.head
  refine ⟨_, rfl, _, _, _, _, rfl, rfl, SqT.of (ha0), atI_nat (j := 0) rfl, rfl, _, rfl, ?_⟩
  cases sm with
  | call r =>
    refine itF (by first | rw [dec_set] | decide +kernel) ?_
    refine ⟨_, rfl, _, _, _, _, rfl, rfl, SqT.of (ha0), atI_nat (j := 0) rfl, rfl, _, rfl, itF (by first | rw [dec_put] | decide +kernel) ?_⟩
    refine ⟨_, rfl, _, _, _, _, rfl, rfl, SqT.of (ha0), atI_nat (j := 0) rfl, rfl, _, rfl, itF (by first | rw [dec_ask] | decide +kernel) ?_⟩
    refine ⟨_, rfl, _, rfl, _, rfl, ?_⟩
    intro x ddx nx ndx ne
    have gx := mk3 (o1 := .own x) (o2 := .ins (ga K "Standing") ddx []) (o3 := .ins (ga K "Standing") ddx [("open_routines", .ref po')]) (o4 := .ins (ga K "Standing") ddx [("open_routines", .ref po'), ("held", vh)]) (o5 := .ins (ga K "Standing") ddx (fStn (.ref po') vh vp)) nx ndx
    refine ⟨x, ddx, .ref po', vh, vp, rfl, upd_same, rfl, ?_⟩
    refine q _ _ (Same.trans g01 gx) ?_
    rw [behind_else hn rfl]
    exact ⟨x, ddx, po', vh, vp, rfl, upd_same, hO'.mono (Same.tups (Same.trans Same.refl' gx)), hh.mono (Same.tups (g01.trans gx)), hP.mono (Same.tups (g01.trans gx))⟩
  | ite t y n =>
    refine itF (by first | rw [dec_set] | decide +kernel) ?_
    refine ⟨_, rfl, _, _, _, _, rfl, rfl, SqT.of (ha0), atI_nat (j := 0) rfl, rfl, _, rfl, itF (by first | rw [dec_put] | decide +kernel) ?_⟩
    refine ⟨_, rfl, _, _, _, _, rfl, rfl, SqT.of (ha0), atI_nat (j := 0) rfl, rfl, _, rfl, itF (by first | rw [dec_ask] | decide +kernel) ?_⟩
    refine ⟨_, rfl, _, rfl, _, rfl, ?_⟩
    intro x ddx nx ndx ne
    have gx := mk3 (o1 := .own x) (o2 := .ins (ga K "Standing") ddx []) (o3 := .ins (ga K "Standing") ddx [("open_routines", .ref po')]) (o4 := .ins (ga K "Standing") ddx [("open_routines", .ref po'), ("held", vh)]) (o5 := .ins (ga K "Standing") ddx (fStn (.ref po') vh vp)) nx ndx
    refine ⟨x, ddx, .ref po', vh, vp, rfl, upd_same, rfl, ?_⟩
    refine q _ _ (Same.trans g01 gx) ?_
    rw [behind_else hn rfl]
    exact ⟨x, ddx, po', vh, vp, rfl, upd_same, hO'.mono (Same.tups (Same.trans Same.refl' gx)), hh.mono (Same.tups (g01.trans gx)), hP.mono (Same.tups (g01.trans gx))⟩
  | whl t y =>
    refine itF (by first | rw [dec_set] | decide +kernel) ?_
    refine ⟨_, rfl, _, _, _, _, rfl, rfl, SqT.of (ha0), atI_nat (j := 0) rfl, rfl, _, rfl, itF (by first | rw [dec_put] | decide +kernel) ?_⟩
    refine ⟨_, rfl, _, _, _, _, rfl, rfl, SqT.of (ha0), atI_nat (j := 0) rfl, rfl, _, rfl, itF (by first | rw [dec_ask] | decide +kernel) ?_⟩
    refine ⟨_, rfl, _, rfl, _, rfl, ?_⟩
    intro x ddx nx ndx ne
    have gx := mk3 (o1 := .own x) (o2 := .ins (ga K "Standing") ddx []) (o3 := .ins (ga K "Standing") ddx [("open_routines", .ref po')]) (o4 := .ins (ga K "Standing") ddx [("open_routines", .ref po'), ("held", vh)]) (o5 := .ins (ga K "Standing") ddx (fStn (.ref po') vh vp)) nx ndx
    refine ⟨x, ddx, .ref po', vh, vp, rfl, upd_same, rfl, ?_⟩
    refine q _ _ (Same.trans g01 gx) ?_
    rw [behind_else hn rfl]
    exact ⟨x, ddx, po', vh, vp, rfl, upd_same, hO'.mono (Same.tups (Same.trans Same.refl' gx)), hh.mono (Same.tups (g01.trans gx)), hP.mono (Same.tups (g01.trans gx))⟩
  | set c z =>
    rw [StA] at hs1
    obtain ⟨a0', p1, eq, hst, hz⟩ := hs1
    cases eq
    rw [OkS] at ok
    obtain ⟨ah, rfl, hah⟩ := id hh
    refine itT (by first | rw [dec_set] | decide +kernel) ⟨_, rfl, _, rfl, _, _, _, _, rfl, rfl, SqT.of (hst), atI_nat (j := 1) rfl, _, rfl, _, _, _, _, rfl, rfl, SqT.of (hst), atI_nat (j := 2) rfl, _, rfl, _, _, z, st.held, rfl, hz, hh.mono (Same.tups g01), by rw [hgh]; exact ok.2.1, by omega, ok.2.2, fun H2 g2 => ?_⟩
    have g02 := g01.trans g2
    refine ⟨ah, c, _, _, rfl, g02.at_ hah, by rw [List.length_map]; omega, by rw [List.length_map]; omega, fun p3 H3 g3 e3 => ?_⟩
    have g03 := g02.trans g3
    rw [map_set] at e3
    refine ⟨_, rfl, _, rfl, _, rfl, ?_⟩
    have hh3 : SmA H3 (.ref p3) (st.held.set c (val z st.held)) := ⟨p3, rfl, e3⟩
    intro x ddx nx ndx ne
    have gx := mk3 (o1 := .own x) (o2 := .ins (ga K "Standing") ddx []) (o3 := .ins (ga K "Standing") ddx [("open_routines", .ref po')]) (o4 := .ins (ga K "Standing") ddx [("open_routines", .ref po'), ("held", (.ref p3))]) (o5 := .ins (ga K "Standing") ddx (fStn (.ref po') (.ref p3) vp)) nx ndx
    refine ⟨x, ddx, .ref po', (.ref p3), vp, rfl, upd_same, rfl, ?_⟩
    refine q _ _ (Same.trans g03 gx) ?_
    rw [behind_set hn]
    exact ⟨x, ddx, po', (.ref p3), vp, rfl, upd_same, hO'.mono (Same.tups (Same.trans (g2.trans g3) gx)), hh3.mono (Same.tups (gx)), hP.mono (Same.tups (g03.trans gx))⟩
  | put bs x1 y1 =>
    rw [StA] at hs1
    obtain ⟨a0', p1, p2, p3, eq, hst, hb, hx, hy⟩ := hs1
    cases eq
    rw [OkS] at ok
    obtain ⟨d1, d2⟩ := done_put hn hdone
    refine itF (by first | rw [dec_set] | decide +kernel) ?_
    refine ⟨_, rfl, _, _, _, _, rfl, rfl, SqT.of (hst), atI_nat (j := 0) rfl, rfl, _, rfl, itT (by first | rw [dec_put] | decide +kernel) ?_⟩
    refine ⟨_, rfl, _, rfl, a0, _, rfl, hst, fun pc H2 g2 e2 => ⟨pc, rfl, ⟨_, SqT.of e2⟩, fun D hD => ?_⟩⟩
    have e0 : cutV [V.str "put", p1, p2, p3] (some 1) none = [p1, p2, p3] := rfl
    rw [e0] at e2
    have nD : H D = none := by
      cases e : H D with
      | none => rfl
      | some o => rw [(g01.trans g2).at_ e] at hD; cases hD
    have nD1 : H1 D = none := by
      cases e : H1 D with
      | none => rfl
      | some o => rw [g2.at_ e] at hD; cases hD
    refine lc_tup (xs := [p1, p2, p3]) (fun i H' => Same H1 H' ∧ H' pc = some (.tup [p1, p2, p3]) ∧ H' D = some (.lst (([val bs st.held, val x1 st.held, val y1 st.held].take i).map V.int))) ⟨Same.then_ g2 hD, newAt e2 hD, upd_same⟩ ?_ ?_ ?_
    · rintro i H' hi ⟨g, h1, h2⟩
      exact SqT.of h1
    · rintro i v H' hi ⟨g, h1, h2⟩
      have hv : ∃ s, SmA H1 v s ∧ OkSm cells s ∧ [val bs st.held, val x1 st.held, val y1 st.held][i]? = some (val s st.held) := by
        match i, hi with
        | 0, hi => cases hi; exact ⟨_, hb, ok.1, rfl⟩
        | 1, hi => cases hi; exact ⟨_, hx, ok.2.1, rfl⟩
        | 2, hi => cases hi; exact ⟨_, hy, ok.2.2, rfl⟩
      obtain ⟨s', hv, ok', hval⟩ := hv
      have hi2 := (List.getElem?_eq_some_iff.mp hi).1
      refine ⟨rfl, _, rfl, _, rfl, _, _, s', st.held, rfl, hv.mono (Same.tups g), hh.mono (Same.tups (g01.trans g)), by rw [hgh]; exact ok'.1, by omega, ok'.2, fun H3 g3 => ⟨_, g3.at_ h2, ?_, ?_, ?_, ?_⟩⟩
      · rw [List.length_map, List.length_take]; exact szlt (by show min i 3 < 100000; omega)
      · exact Same.mut (g.trans g3) nD1
      · have : pc ≠ D := ne_of (g3.at_ h1) (g3.at_ h2) (by intro z; cases z)
        rw [upd_ne this]; exact g3.at_ h1
      · rw [upd_same, List.take_add_one, hval, List.map_append]; rfl
    · rintro H3 ⟨g, h1, h2⟩
      have g03 := g01.trans g
      refine ⟨D, _, rfl, SqL.of h2, rfl, _, _, rfl, _, _, rfl, _, _, rfl, rfl, ?_⟩
      obtain ⟨pa, pvs, rfl, hpa, pl⟩ := id hP
      have pll := pl.len
      refine ⟨_, rfl, _, rfl, _, rfl, _, rfl, (by show 2 ≤ sizeLine; decide), fun t2 ht2 => ?_⟩
      have g4 := Same.then_ g03 (o := .tup [V.int (val x1 st.held), V.int (val y1 st.held)]) ht2
      have ek : val bs st.held = (((val bs st.held).toNat : Nat) : Int) := by omega
      refine ⟨pa, (val bs st.held).toNat, .ref t2, pvs, by rw [← ek], g4.at_ hpa, by omega, by omega, fun p5 H5 g5 e5 => ?_⟩
      have g05 := g4.trans g5
      have hP5 : PosA H5 (.ref p5) (st.pos.set (val bs st.held).toNat (some (val x1 st.held, val y1 st.held))) :=
        ⟨p5, _, rfl, e5, (pl.mono fun _ _ r => PlA.mono r (Same.tups g05)).set (show PlA H5 (.ref t2) (some (val x1 st.held, val y1 st.held)) from ⟨t2, rfl, g5.at_ upd_same⟩) _⟩
      have gH : Same H1 H5 := g.trans (Same.trans (Same.new ht2) g5)
      refine ⟨_, rfl, _, rfl, _, rfl, ?_⟩
      intro x ddx nx ndx ne
      have gx := mk3 (o1 := .own x) (o2 := .ins (ga K "Standing") ddx []) (o3 := .ins (ga K "Standing") ddx [("open_routines", .ref po')]) (o4 := .ins (ga K "Standing") ddx [("open_routines", .ref po'), ("held", vh)]) (o5 := .ins (ga K "Standing") ddx (fStn (.ref po') vh (.ref p5))) nx ndx
      refine ⟨x, ddx, .ref po', vh, (.ref p5), rfl, upd_same, rfl, ?_⟩
      refine q _ _ (Same.trans g05 gx) ?_
      rw [behind_put hn]
      exact ⟨x, ddx, po', vh, (.ref p5), rfl, upd_same, hO'.mono (Same.tups (Same.trans gH gx)), hh.mono (Same.tups (g05.trans gx)), hP5.mono (Same.tups (gx))⟩
  | ask c wd z =>
    rw [StA] at hs1
    obtain ⟨a0', p1, eq, hst, hz⟩ := hs1
    cases eq
    rw [OkS] at ok
    obtain ⟨⟨d1, d2⟩, d3⟩ := done_ask hn hdone
    obtain ⟨ah, rfl, hah⟩ := id hh
    refine itF (by first | rw [dec_set] | decide +kernel) ?_
    refine ⟨_, rfl, _, _, _, _, rfl, rfl, SqT.of (hst), atI_nat (j := 0) rfl, rfl, _, rfl, itF (by first | rw [dec_put] | decide +kernel) ?_⟩
    refine ⟨_, rfl, _, _, _, _, rfl, rfl, SqT.of (hst), atI_nat (j := 0) rfl, rfl, _, rfl, itT (by first | rw [dec_ask] | decide +kernel) ?_⟩
    refine ⟨_, rfl, _, rfl, _, _, _, _, rfl, rfl, SqT.of (hst), atI_nat (j := 1) rfl, _, rfl, _, rfl, _, rfl, _, _, _, _, rfl, rfl, SqT.of (hst), atI_nat (j := 2) rfl, _, rfl, _, _, _, _, rfl, rfl, SqT.of (hst), atI_nat (j := 3) rfl, _, rfl, _, _, z, st.held, rfl, hz, hh.mono (Same.tups g01), by rw [hgh]; exact ok.2.1, by omega, ok.2.2, fun H2 g2 => ?_⟩
    have g02 := g01.trans g2
    have ek : val z st.held = (((val z st.held).toNat : Nat) : Int) := by omega
    have hkn : (val z st.held).toNat < zs.length := by omega
    have hsome : wd = .width ∨ wd = .height ∨ ∃ y, st.pos[(val z st.held).toNat]? = some (some y) := by
      rcases d3 with e | e | e
      · exact .inl e
      · exact .inr (.inl e)
      · have hl : (val z st.held).toNat < st.pos.length := by omega
        rw [List.getD_eq_getElem?_getD, List.getElem?_eq_getElem hl] at e
        obtain ⟨y, ey⟩ := Option.isSome_iff_exists.mp e
        refine .inr (.inr ⟨y, ?_⟩)
        rw [List.getElem?_eq_getElem hl]
        exact congrArg some ey
    refine ⟨bx, vp, zs, st.pos, wd, (val z st.held).toNat, by rw [← ek], hbx.mono (Same.kp g02), hP.mono (Same.tups g02), hkn, hsome, fun H3 g3 => ?_⟩
    have g03 := g02.trans g3
    refine ⟨ah, c, _, _, rfl, g03.at_ hah, by rw [List.length_map]; omega, by rw [List.length_map]; omega, fun p4 H4 g4 e4 => ?_⟩
    have g04 := g03.trans g4
    rw [map_set] at e4
    refine ⟨_, rfl, _, rfl, _, rfl, ?_⟩
    have hh4 : SmA H4 (.ref p4) (st.held.set c (askedP zs st.pos wd (val z st.held).toNat)) := ⟨p4, rfl, e4⟩
    intro x ddx nx ndx ne
    have gx := mk3 (o1 := .own x) (o2 := .ins (ga K "Standing") ddx []) (o3 := .ins (ga K "Standing") ddx [("open_routines", .ref po')]) (o4 := .ins (ga K "Standing") ddx [("open_routines", .ref po'), ("held", (.ref p4))]) (o5 := .ins (ga K "Standing") ddx (fStn (.ref po') (.ref p4) vp)) nx ndx
    refine ⟨x, ddx, .ref po', (.ref p4), vp, rfl, upd_same, rfl, ?_⟩
    refine q _ _ (Same.trans g04 gx) ?_
    rw [behind_ask hn]
    exact ⟨x, ddx, po', (.ref p4), vp, rfl, upd_same, hO'.mono (Same.tups (Same.trans (g2.trans (g3.trans g4)) gx)), hh4.mono (Same.tups (gx)), hP.mono (Same.tups (g04.trans gx))⟩
end
end K34

set_option Elab.async false
set_option linter.all false
set_option maxRecDepth 100000
set_option maxHeartbeats 4000000
/-! D7: the runner. -/
namespace K34
open PySem PySem.Spec PyProof.Rows L2
open He (ga ma)
/-- a right scene and boxes -/
structure Sc (cells : Nat) (rs : List (List Stm)) (many : Nat) : Prop where
  R : OkR cells rs
  c1 : 1 ≤ cells
  c5 : cells ≤ 5
  m1 : 1 ≤ many
  m4 : many ≤ 4
theorem Sc.st {cells many : Nat} {rs : List (List Stm)} {st : PSt} (h : Sc cells rs many) (g : Good rs cells many st) : StOk cells rs many st := ⟨h.R, h.c5, h.m1, h.m4, g⟩
theorem Same.kp' {H H' : Hp} (g : Same H H') : Kp H H' := Same.kp g
theorem RunA.keep {K : PySem.W.Frag} {H H' : Hp} {r pl sc bx : Addr} {cells : Nat} {rs : List (List Stm)} {zs : List (Int × Int)} {ps : List PSt} (h : RunA K H r pl sc bx cells rs zs ps) (k : Kp H H') (e : ∀ xs, H pl = some (.lst xs) → H' pl = some (.lst xs)) : RunA K H' r pl sc bx cells rs zs ps :=
  ⟨let ⟨dx, q⟩ := h.ob; ⟨dx, k.i _ _ _ _ q⟩, let ⟨vs, q, x⟩ := h.pl; ⟨vs, e _ q, x.mono fun _ _ r => r.mono k⟩, h.sc.mono k, h.bx.mono k, h.good, h.ne⟩
theorem RunA.same {K : PySem.W.Frag} {H H' : Hp} {r pl sc bx : Addr} {cells : Nat} {rs : List (List Stm)} {zs : List (Int × Int)} {ps : List PSt} (h : RunA K H r pl sc bx cells rs zs ps) (g : Same H H') : RunA K H' r pl sc bx cells rs zs ps := h.keep (Same.kp g) fun _ e => g.at_ e
/-- another list has changed -/
theorem RunA.extL {K : PySem.W.Frag} {H H' : Hp} {r pl sc bx p2 : Addr} {ys : List V} {cells : Nat} {rs : List (List Stm)} {zs : List (Int × Int)} {ps : List PSt} (h : RunA K H r pl sc bx cells rs zs ps) (g : Ext p2 H H') (e : H p2 = some (.lst ys)) (n : pl ≠ p2) : RunA K H' r pl sc bx cells rs zs ps :=
  h.keep (g.kpL e) fun _ e2 => g _ _ e2 n
/-- the hand has changed -/
theorem RunA.extD {K : PySem.W.Frag} {H H' : Hp} {r pl sc bx p2 : Addr} {ys : List (Key × V)} {cells : Nat} {rs : List (List Stm)} {zs : List (Int × Int)} {ps : List PSt} (h : RunA K H r pl sc bx cells rs zs ps) (g : Ext p2 H H') (e : H p2 = some (.dK ys)) : RunA K H' r pl sc bx cells rs zs ps :=
  h.keep (g.kpD e) fun _ e2 => g _ _ e2 (ne_of e2 e (by intro z; cases z))
theorem RunA.last {K : PySem.W.Frag} {H : Hp} {r pl sc bx : Addr} {cells : Nat} {rs : List (List Stm)} {zs : List (Int × Int)} {ps : List PSt} {st : PSt} (h : RunA K H r pl sc bx cells rs zs (ps ++ [st])) :
    ∃ vs v, H pl = some (.lst (vs ++ [v])) ∧ StnA K H v st ∧ All2 (StnA K H) vs ps ∧ Good rs cells zs.length st := by
  obtain ⟨xs, e, x⟩ := h.pl
  have key : ∀ (ps : List PSt) (xs : List V), All2 (StnA K H) xs (ps ++ [st]) → ∃ vs v, xs = vs ++ [v] ∧ StnA K H v st ∧ All2 (StnA K H) vs ps := by
    intro ps
    induction ps with
    | nil =>
      intro xs x
      cases x with
      | cons a b => cases b; exact ⟨[], _, rfl, a, .nil⟩
    | cons p r ih =>
      intro xs x
      cases x with
      | cons a b =>
        obtain ⟨vs, v, rfl, h1, h2⟩ := ih _ b
        exact ⟨_ :: vs, v, rfl, h1, .cons a h2⟩
  obtain ⟨vs, v, rfl, h1, h2⟩ := key ps xs x
  exact ⟨vs, v, e, h1, h2, h.good st (by simp)⟩
theorem st0_good {rs : List (List Stm)} {cells many : Nat} {hd : List Int} (R : OkR cells rs) (h : hd.length = cells) : Good rs cells many (st0 rs hd many) := by
  have S : Sim rs [(0, [(rs.getD 0 [], 0)])] [(0, 0)] := .cons R.n1 At.first .nil
  obtain ⟨l', h1, h2, h3⟩ := settled_set _ (Nat.le_refl _) S
  exact ⟨h2, Nat.le_trans h3 (by simp), h, by show (List.replicate _ _).length = _; rw [List.length_replicate], l', h1⟩
theorem cont_of {H : Hp} {v : V} {hd : List Int} {n : Nat} (h : SmA H v hd) (hl : hd.length = n) (h5 : n ≤ 5) : Cont H (n : Int) v true := by
  obtain ⟨a, rfl, e⟩ := h
  refine .inl ⟨a, _, rfl, e, fun x m => ?_, by rw [List.length_map]; omega, ?_⟩
  · obtain ⟨z, _, rfl⟩ := List.mem_map.mp m
    exact ⟨_, .int z⟩
  · rw [List.length_map, hl, List.all_map]
    have e1 : decide ((n : Int) = (n : Int)) = true := decide_eq_true rfl
    have e2 : (hd.all (isI ∘ V.int)) = true := by rw [List.all_eq_true]; intro x _; rfl
    rw [e1, e2]; rfl
def spInit (K : PySem.W.Frag) : Sp := fun vs H Q E => ∃ (o dx sc bx : Addr) (v : V) (cells : Nat) (rs : List (List Stm)) (zs : List (Int × Int)) (b : Bool), vs = [.ref o, .ref sc, .ref bx, v] ∧ H o = some (.ins (ga K "SceneRunner") dx []) ∧ ScnA K H sc cells rs ∧ BxsA K H bx zs ∧ Sc cells rs zs.length ∧ Cont H (cells : Int) v b ∧
  (b = false → ∀ H', Same H H' → E (.ref (ga K "NoContents")) none H') ∧ (b = true → ∃ hd, SmA H v hd ∧ hd.length = cells ∧ ∀ H' pl, Ext o H H' → H pl = none → pl ≠ o → RunA K H' o pl sc bx cells rs zs [st0 rs hd zs.length] → Q .non H')
def spRWord (K : PySem.W.Frag) : Sp := fun vs H Q _ => ∃ (r pl sc bx : Addr) (cells : Nat) (rs : List (List Stm)) (zs : List (Int × Int)) (ps : List PSt) (st : PSt), vs = [.ref r] ∧ RunA K H r pl sc bx cells rs zs (ps ++ [st]) ∧ Sc cells rs zs.length ∧ ∀ H', Same H H' → Q (.str (wrS (wordP zs.length st))) H'
def ComA (H : Hp) (v : V) (st : PSt) : Prop := (st.op = [] ∧ v = .non) ∨ ∃ s, nextP st.op = some s ∧ (match s with | .ite t _ _ => TsA H v t | .whl t _ => TsA H v t | _ => StA H s v)
def spComing (K : PySem.W.Frag) : Sp := fun vs H Q _ => ∃ (r pl sc bx : Addr) (cells : Nat) (rs : List (List Stm)) (zs : List (Int × Int)) (ps : List PSt) (st : PSt), vs = [.ref r] ∧ RunA K H r pl sc bx cells rs zs (ps ++ [st]) ∧ ∀ v H', Same H H' → ComA H' v st → Q v H'
def OpdA (H : Hp) (v : V) (st : PSt) : Prop := ∃ a, v = .ref a ∧ H a = some (.tup ((st.op.map fun r => V.int (r.1 : Int)).reverse))
def spOpened (K : PySem.W.Frag) : Sp := fun vs H Q _ => ∃ (r pl sc bx : Addr) (cells : Nat) (rs : List (List Stm)) (zs : List (Int × Int)) (ps : List PSt) (st : PSt), vs = [.ref r] ∧ RunA K H r pl sc bx cells rs zs (ps ++ [st]) ∧ ∀ v H', Same H H' → OpdA H' v st → Q v H'
def spContents (K : PySem.W.Frag) : Sp := fun vs H Q _ => ∃ (r pl sc bx : Addr) (cells : Nat) (rs : List (List Stm)) (zs : List (Int × Int)) (ps : List PSt) (st : PSt), vs = [.ref r] ∧ RunA K H r pl sc bx cells rs zs (ps ++ [st]) ∧ ∀ v, SmA H v st.held → Q v H
def spPlaces (K : PySem.W.Frag) : Sp := fun vs H Q _ => ∃ (r pl sc bx : Addr) (cells : Nat) (rs : List (List Stm)) (zs : List (Int × Int)) (ps : List PSt) (st : PSt), vs = [.ref r] ∧ RunA K H r pl sc bx cells rs zs (ps ++ [st]) ∧ ∀ v, PosA H v st.pos → Q v H
def spSteps (K : PySem.W.Frag) : Sp := fun vs H Q _ => ∃ (r pl sc bx : Addr) (cells : Nat) (rs : List (List Stm)) (zs : List (Int × Int)) (ps : List PSt), vs = [.ref r] ∧ RunA K H r pl sc bx cells rs zs ps ∧ Q (.int ((ps.length : Int) - 1)) H
def spStep (K : PySem.W.Frag) : Sp := fun vs H Q E => ∃ (r pl sc bx : Addr) (cells : Nat) (rs : List (List Stm)) (zs : List (Int × Int)) (ps : List PSt) (st : PSt), vs = [.ref r] ∧ RunA K H r pl sc bx cells rs zs (ps ++ [st]) ∧ Sc cells rs zs.length ∧ ps.length ≤ 1000 ∧
  (wordP zs.length st = .runs → ∀ H', Ext pl H H' → RunA K H' r pl sc bx cells rs zs (ps ++ [st] ++ [behindP rs zs st]) → Q .non H') ∧ (wordP zs.length st ≠ .runs → ∀ H', Same H H' → E (.ref (ga K "NotRunning")) none H')
def spBack (K : PySem.W.Frag) : Sp := fun vs H Q E => ∃ (r pl sc bx : Addr) (cells : Nat) (rs : List (List Stm)) (zs : List (Int × Int)) (ps : List PSt) (st : PSt), vs = [.ref r] ∧ RunA K H r pl sc bx cells rs zs (ps ++ [st]) ∧
  (ps ≠ [] → ∀ H', Ext pl H H' → RunA K H' r pl sc bx cells rs zs ps → Q .non H') ∧ (ps = [] → E (.ref (ga K "NothingDone")) none H)
def spGo (K : PySem.W.Frag) : Sp := fun vs H Q E => ∃ (r pl sc bx : Addr) (v : V) (t : String) (cells : Nat) (rs : List (List Stm)) (zs : List (Int × Int)) (ps : List PSt) (st : PSt), vs = [.ref r, v] ∧ RunA K H r pl sc bx cells rs zs (ps ++ [st]) ∧ Sc cells rs zs.length ∧ ps.length ≤ 900 ∧ KTy H v t ∧
  (inW 0 5000 v = false → E (.ref (ga K "NoNumber")) none H) ∧ (inW 0 5000 v = true → ∃ n : Nat, v = .int (n : Int) ∧ n ≤ 9 ∧ ∀ H', Ext pl H H' → RunA K H' r pl sc bx cells rs zs (goneP rs zs zs.length n (ps ++ [st]) st) → Q (.int (((goneP rs zs zs.length n (ps ++ [st]) st).length : Int) - ((ps ++ [st]).length : Int))) H')
def spCopy (K : PySem.W.Frag) : Sp := fun vs H Q _ => ∃ (r pl sc bx : Addr) (cells : Nat) (rs : List (List Stm)) (zs : List (Int × Int)) (ps : List PSt), vs = [.ref r] ∧ RunA K H r pl sc bx cells rs zs ps ∧ Sc cells rs zs.length ∧ ∀ r2 pl2 H', Same H H' → H pl2 = none → RunA K H' r2 pl2 sc bx cells rs zs ps → Q (.ref r2) H'
theorem inv_iw' {s : Stm} : (if true = true then !inV (.str (wordS s)) [.str "if", .str "while"] else inV (.str (wordS s)) [.str "if", .str "while"]) = !inV (.str (wordS s)) [.str "if", .str "while"] := if_pos rfl
section
variable {P : Program} {w : World} {K : PySem.W.Frag} {mg : Str → Option Value} {base : Heap}
theorem ok_Runner_init (T : Facts w K mg) : OkM P w K mg base (L2.CX P w) 4 (ga K "SceneRunner") "__init__" ["self", "scene", "boxes", "begins"] (spInit K) := by
  have G_begun := ok_begun (P := P) (base := base) T
  have G_are_contents := ok_are_contents (P := P) (base := base) T
  refine T.d_SceneRunner___init__.okX sc_SceneRunner___init__ bb_SceneRunner___init__ (fun vs H Q E h => ?_) (fun f cdv A outer s H vs Q E hr h => ?_)
  · obtain ⟨_, _, _, _, _, _, _, _, _, rfl, _⟩ := h; rfl
  obtain ⟨o, dx, sc, bx, v, cells, rs, zs, b, rfl, ho, hsc, hbx, O, hc, q1, q2⟩ := h
  refine ⟨_, (pss_cons (ps_if (pt_not (pt_val (pe_cal G_are_contents (hr.mono (by first | decide | omega)) (pa_cons (pv 1) (pa_cons (pv 3) pa_nil))))) (pss_one (ps_raise rfl (takes_of rfl rfl rfl rfl) (pmk_own0 PySem.F.excBase_ValueError T.x_NoContents.x T.g_NoContents T.x_NoContents.k (raises_own T.x_NoContents.b T.x_NoContents.t) (by rfl)))) pss_nil)
      (pss_cons (ps_fld (pv 0) (pv 1) rfl)
      (pss_cons (ps_fld (pv 0) (pv 2) rfl)
      (pss_one (ps_fld (pv 0) (pe_lst (pa_cons (pe_cal G_begun (hr.mono (by first | decide | omega)) (pa_cons (pv 1) (pa_cons (pv 2) (pa_cons (pv 3) pa_nil)))) pa_nil)) rfl))))), ?_⟩
  obtain ⟨sdx, rp, hscI, hrt⟩ := id hsc
  refine ⟨_, rfl, _, rfl, sc, _, _, v, b, rfl, ⟨sdx, rp, hscI⟩, rfl, hc, fun H1 g1 => ⟨_, rfl, ?_⟩⟩
  cases b with
  | false => exact itT rfl (q1 rfl H1 g1)
  | true =>
    obtain ⟨hd, hv, hdl, q⟩ := q2 rfl
    refine itF rfl ?_
    have n1 : sc ≠ o := by
      intro e
      rw [e] at hscI
      have := hscI.symm.trans ho
      have e3 := (HO.ins.inj (Option.some.inj this)).2.2
      cases e3
    obtain ⟨bdx, bp, hbxI, hsz⟩ := id hbx
    have n2 : bx ≠ o := by
      intro e
      rw [e] at hbxI
      have := hbxI.symm.trans ho
      have e3 := (HO.ins.inj (Option.some.inj this)).2.2
      cases e3
    refine ⟨_, rfl, _, rfl, o, _, dx, _, rfl, g1.at_ ho, T.cl_SceneRunner, T.na_SceneRunner_scene, (by decide), ?_⟩
    refine ⟨_, rfl, _, rfl, o, _, dx, _, rfl, upd_same, T.cl_SceneRunner, T.na_SceneRunner_sized, (by show 1 < 1000; decide), ?_⟩
    have gE : Ext o H (upd (upd H1 o (.ins (ga K "SceneRunner") dx [("scene", .ref sc)])) o (.ins (ga K "SceneRunner") dx [("scene", .ref sc), ("sized", .ref bx)])) := ((Same.ext g1).upd).upd
    have kT : Tups H (upd (upd H1 o (.ins (ga K "SceneRunner") dx [("scene", .ref sc)])) o (.ins (ga K "SceneRunner") dx [("scene", .ref sc), ("sized", .ref bx)])) := gE.tups fun xs e => by rw [ho] at e; cases e
    have hsc' : ScnA K (upd (upd H1 o (.ins (ga K "SceneRunner") dx [("scene", .ref sc)])) o (.ins (ga K "SceneRunner") dx [("scene", .ref sc), ("sized", .ref bx)])) sc cells rs := ⟨sdx, rp, gE _ _ hscI n1, hrt.mono kT⟩
    have hbx' : BxsA K (upd (upd H1 o (.ins (ga K "SceneRunner") dx [("scene", .ref sc)])) o (.ins (ga K "SceneRunner") dx [("scene", .ref sc), ("sized", .ref bx)])) bx zs := ⟨bdx, bp, gE _ _ hbxI n2, hsz.mono kT⟩
    refine ⟨_, rfl, _, rfl, _, rfl, sc, bx, v, cells, rs, zs, hd, rfl, hsc', O.R, hbx', O.m1, O.m4, hv.mono kT, fun sv H2 g2 hS => ?_⟩
    refine ⟨(by show 1 ≤ sizeLine; decide), fun pl hpl => ?_⟩
    have g3 : Same H2 (upd H2 pl (.lst [sv])) := Same.new hpl
    have ho3 := g3.at_ (g2.at_ (upd_same (H := upd H1 o (.ins (ga K "SceneRunner") dx [("scene", .ref sc)])) (a := o) (o := .ins (ga K "SceneRunner") dx [("scene", .ref sc), ("sized", .ref bx)])))
    refine ⟨_, rfl, o, _, dx, _, rfl, ho3, T.cl_SceneRunner, T.na_SceneRunner_past, (by show 2 < 1000; decide), ?_⟩
    have npl : pl ≠ o := by
      intro e
      subst e
      rw [g2.at_ upd_same] at hpl
      cases hpl
    have gF := gE.thenSame (g2.trans g3)
    refine q _ pl gF.upd ?_ npl ?_
    · cases e : H pl with
      | none => rfl
      | some u => rw [g2.at_ (gE _ _ e npl)] at hpl; cases hpl
    · have kT3 : Tups H2 (upd (upd H2 pl (.lst [sv])) o (.ins (ga K "SceneRunner") dx (putF "past" (.ref pl) [("scene", .ref sc), ("sized", .ref bx)]))) := by
        intro c xs e
        have : c ≠ o := by
          intro z
          subst z
          rw [g3.at_ e] at ho3
          cases ho3
        rw [upd_ne this]; exact g3.at_ e
      have hI : ∀ {c C dx' : Addr} {fs : List (Str × V)}, H2 c = some (.ins C dx' fs) → fs.length ≠ 2 → upd (upd H2 pl (.lst [sv])) o (.ins (ga K "SceneRunner") dx (putF "past" (.ref pl) [("scene", .ref sc), ("sized", .ref bx)])) c = some (.ins C dx' fs) := by
        intro c C dx' fs e hf
        have : c ≠ o := by
          intro z
          subst z
          rw [g3.at_ e] at ho3
          have e3 := (HO.ins.inj (Option.some.inj ho3)).2.2
          rw [e3] at hf
          exact hf rfl
        rw [upd_ne this]; exact g3.at_ e
      obtain ⟨sa, sdx2, po, vh, vp, e1, e2, x1, x2, x3⟩ := hS
      obtain ⟨sdx3, rp3, e4, x4⟩ := hsc'
      obtain ⟨bdx3, bp3, e5, x5⟩ := hbx'
      refine ⟨⟨dx, ?_⟩, ⟨[sv], by rw [upd_ne npl]; exact upd_same, .cons ⟨sa, sdx2, po, vh, vp, e1, hI e2 (by show 3 ≠ 2; decide), x1.mono kT3, x2.mono kT3, x3.mono kT3⟩ .nil⟩, ⟨sdx3, rp3, ?_, x4.mono fun c xs e => kT3 _ _ (g2.at_ e)⟩, ⟨bdx3, bp3, ?_, x5.mono fun c xs e => kT3 _ _ (g2.at_ e)⟩, ?_, by simp⟩
      · rw [upd_same, ← fRun_put]; rfl
      · rw [upd_ne n1]; exact g3.at_ (g2.at_ e4)
      · rw [upd_ne n2]; exact g3.at_ (g2.at_ e5)
      · intro st hst
        have : st = st0 rs hd zs.length := by simpa using hst
        rw [this]
        exact st0_good O.R hdl
theorem ok_Runner (T : Facts w K mg) : OkC P w K mg base (L2.CX P w) 4 "SceneRunner" (ga K "SceneRunner") ["self", "scene", "boxes", "begins"] (spInit K) := (ok_Runner_init T).cls T.mk_SceneRunner T.g_SceneRunner
theorem ok_Runner_word (T : Facts w K mg) : OkM P w K mg base CX0 6 (ga K "SceneRunner") "word" ["self"] (spRWord K) := by
  have G_word_of := ok_word_of (P := P) (base := base) T
  refine T.d_SceneRunner_word.ok sc_SceneRunner_word bb_SceneRunner_word (fun vs H Q E h => ?_) (fun f cdv A outer s H vs Q E hr h => ?_)
  · obtain ⟨_, _, _, _, _, _, _, _, _, rfl, _⟩ := h; rfl
  obtain ⟨r, pl, sc, bx, cells, rs, zs, ps, st, rfl, R, O, q⟩ := h
  obtain ⟨dx, hr0⟩ := R.ob
  obtain ⟨vs, v, hpl, hS, hvs, hg⟩ := R.last
  refine ⟨_, (pss_one (ps_ret (pe_cal G_word_of (hr.mono (by first | decide | omega)) (pa_cons (pe_fld (pv 0) rfl) (pa_cons (pe_ix ix_list (pe_fld (pv 0) rfl) (pe_un un_neg pe_int) (fun _ _ => rfl)) pa_nil))))), ?_⟩
  exact ⟨_, rfl, r, _, dx, _, _, rfl, hr0, T.cl_SceneRunner, T.na_SceneRunner_sized, fRun_b, _, rfl, r, _, dx, _, _, rfl, hr0, T.cl_SceneRunner, T.na_SceneRunner_past, fRun_p, _, rfl, _, _, _, _, rfl, rfl, SqL.of hpl, at_last rfl, bx, v, cells, rs, zs, st, rfl, R.bx, hS, O.st hg, q⟩
theorem ok_Runner_coming (T : Facts w K mg) : OkM P w K mg base CX0 2 (ga K "SceneRunner") "coming" ["self"] (spComing K) := by
  have G_next_of := ok_next_of (P := P) (base := base) T
  refine T.d_SceneRunner_coming.ok sc_SceneRunner_coming bb_SceneRunner_coming (fun vs H Q E h => ?_) (fun f cdv A outer s H vs Q E hr h => ?_)
  · obtain ⟨_, _, _, _, _, _, _, _, _, rfl, _⟩ := h; rfl
  obtain ⟨r, pl, sc, bx, cells, rs, zs, ps, st, rfl, R, q⟩ := h
  obtain ⟨dx, hr0⟩ := R.ob
  obtain ⟨vs, v, hpl, hS, hvs, hg⟩ := R.last
  obtain ⟨a, sdx, po, vh, vp, rfl, ha, hO, hh, hP⟩ := id hS
  obtain ⟨ovs, hop, hov⟩ := id hO
  have ol := hov.len
  refine ⟨_, (pss_cons (ps_if (pt_cmpR op_eq (pe_callB call_len_seq (by rfl) T.b_len PySem.boot_len (pa_cons (pe_fld (pe_ix ix_list (pe_fld (pv 0) rfl) (pe_un un_neg pe_int) (fun _ _ => rfl)) rfl) pa_nil)) pe_int (nomark _)) (pss_one (ps_ret pe_non)) pss_nil)
      (pss_cons (ps_set (i := 1) sc_SceneRunner_coming.nd rfl (Or.inl rfl) (pe_cal G_next_of (hr.mono (by first | decide | omega)) (pa_cons (pe_fld (pe_ix ix_list (pe_fld (pv 0) rfl) (pe_un un_neg pe_int) (fun _ _ => rfl)) rfl) pa_nil)))
      (pss_one (ps_ret (pe_ifExp (pt_cmpR op_in_seq (pe_ix ix_tup (pv 1) pe_int (fun _ _ => rfl)) (pe_tup (pa_cons (pe_gs T.c_IF) (pa_cons (pe_gs T.c_WHILE) pa_nil))) rfl) (pe_ix ix_tup (pv 1) pe_int (fun _ _ => rfl)) (pv 1)))))), ?_⟩
  refine ⟨_, rfl, r, _, dx, _, _, rfl, hr0, T.cl_SceneRunner, T.na_SceneRunner_past, fRun_p, _, rfl, _, _, _, _, rfl, rfl, SqL.of hpl, at_last rfl, a, _, sdx, _, _, rfl, ha, T.cl_Standing, T.na_Standing_open_routines, fStn_o, po, _, rfl, .inr (SqT.of hop), rfl, _, rfl, ?_⟩
  rcases hg.set_ with e | ⟨sm, hn⟩
  · exact itT (decide_eq_true (by rw [List.length_reverse, ol, e]; rfl)) (q _ _ Same.refl' (.inl ⟨e, rfl⟩))
  · refine itF (decide_eq_false ?_) ?_
    · intro z
      have := V.int.inj z
      rw [List.length_reverse, ol] at this
      obtain ⟨_, _, _, _, _, eo, _⟩ := next_ex hn
      rw [eo] at this
      simp at this
      omega
    refine ⟨_, rfl, r, _, dx, _, _, rfl, hr0, T.cl_SceneRunner, T.na_SceneRunner_past, fRun_p, _, rfl, _, _, _, _, rfl, rfl, SqL.of hpl, at_last rfl, a, _, sdx, _, _, rfl, ha, T.cl_Standing, T.na_Standing_open_routines, fStn_o, po, st.op, sm, rfl, hO, hn, fun sv hs => ?_⟩
    obtain ⟨a0, xs0, rfl, ha0⟩ := hs.head
    refine ⟨_, rfl, _, _, _, _, rfl, rfl, SqT.of (ha0), atI_nat (j := 0) rfl, (by show 2 ≤ sizeLine; decide), fun l1 hl1 => ⟨l1, _, rfl, .inr (SqT.of upd_same), rfl, rfl, _, rfl, ?_⟩⟩
    have g1 : Same H (upd H l1 (.tup [V.str "if", V.str "while"])) := Same.new hl1
    cases sm with
    | ite t y n =>
      rw [StA] at hs
      obtain ⟨a0', p1, p2, p3, eq, hst, ht, hy, hm⟩ := hs
      cases eq
      exact itT (by first | decide +kernel | (rw [if_neg (by decide), inv_iw])) ⟨_, rfl, _, _, _, _, rfl, rfl, SqT.of (g1.at_ hst), atI_nat (j := 1) rfl, q _ _ g1 (.inr ⟨_, hn, ht.mono (Same.tups g1)⟩)⟩
    | whl t y =>
      rw [StA] at hs
      obtain ⟨a0', p1, p2, eq, hst, ht, hy⟩ := hs
      cases eq
      exact itT (by first | decide +kernel | (rw [if_neg (by decide), inv_iw])) ⟨_, rfl, _, _, _, _, rfl, rfl, SqT.of (g1.at_ hst), atI_nat (j := 1) rfl, q _ _ g1 (.inr ⟨_, hn, ht.mono (Same.tups g1)⟩)⟩
    | set c z => exact itF (by first | decide +kernel | (rw [if_neg (by decide), inv_iw])) ⟨_, rfl, q _ _ g1 (.inr ⟨_, hn, hs.mono (Same.tups g1) _ _⟩)⟩
    | put b x y => exact itF (by first | decide +kernel | (rw [if_neg (by decide), inv_iw])) ⟨_, rfl, q _ _ g1 (.inr ⟨_, hn, hs.mono (Same.tups g1) _ _⟩)⟩
    | ask c wd z => exact itF (by first | decide +kernel | (rw [if_neg (by decide), inv_iw])) ⟨_, rfl, q _ _ g1 (.inr ⟨_, hn, hs.mono (Same.tups g1) _ _⟩)⟩
    | call r => exact itF (by first | decide +kernel | (rw [if_neg (by decide), inv_iw])) ⟨_, rfl, q _ _ g1 (.inr ⟨_, hn, hs.mono (Same.tups g1) _ _⟩)⟩
theorem ok_Runner_contents (T : Facts w K mg) : OkM P w K mg base CX0 1 (ga K "SceneRunner") "contents" ["self"] (spContents K) := by
  refine T.d_SceneRunner_contents.ok sc_SceneRunner_contents bb_SceneRunner_contents (fun vs H Q E h => ?_) (fun f cdv A outer s H vs Q E hr h => ?_)
  · obtain ⟨_, _, _, _, _, _, _, _, _, rfl, _⟩ := h; rfl
  obtain ⟨r, pl, sc, bx, cells, rs, zs, ps, st, rfl, R, q⟩ := h
  obtain ⟨dx, hr0⟩ := R.ob
  obtain ⟨vs, v, hpl, hS, hvs, hg⟩ := R.last
  obtain ⟨a, sdx, po, vh, vp, rfl, ha, hO, hh, hP⟩ := id hS
  refine ⟨_, (pss_one (ps_ret (pe_fld (pe_ix ix_list (pe_fld (pv 0) rfl) (pe_un un_neg pe_int) (fun _ _ => rfl)) rfl))), ?_⟩
  exact ⟨_, rfl, r, _, dx, _, _, rfl, hr0, T.cl_SceneRunner, T.na_SceneRunner_past, fRun_p, _, rfl, _, _, _, _, rfl, rfl, SqL.of hpl, at_last rfl, a, _, sdx, _, _, rfl, ha, T.cl_Standing, T.na_Standing_held, fStn_h, q _ hh⟩
theorem ok_Runner_places (T : Facts w K mg) : OkM P w K mg base CX0 1 (ga K "SceneRunner") "places" ["self"] (spPlaces K) := by
  refine T.d_SceneRunner_places.ok sc_SceneRunner_places bb_SceneRunner_places (fun vs H Q E h => ?_) (fun f cdv A outer s H vs Q E hr h => ?_)
  · obtain ⟨_, _, _, _, _, _, _, _, _, rfl, _⟩ := h; rfl
  obtain ⟨r, pl, sc, bx, cells, rs, zs, ps, st, rfl, R, q⟩ := h
  obtain ⟨dx, hr0⟩ := R.ob
  obtain ⟨vs, v, hpl, hS, hvs, hg⟩ := R.last
  obtain ⟨a, sdx, po, vh, vp, rfl, ha, hO, hh, hP⟩ := id hS
  refine ⟨_, (pss_one (ps_ret (pe_fld (pe_ix ix_list (pe_fld (pv 0) rfl) (pe_un un_neg pe_int) (fun _ _ => rfl)) rfl))), ?_⟩
  exact ⟨_, rfl, r, _, dx, _, _, rfl, hr0, T.cl_SceneRunner, T.na_SceneRunner_past, fRun_p, _, rfl, _, _, _, _, rfl, rfl, SqL.of hpl, at_last rfl, a, _, sdx, _, _, rfl, ha, T.cl_Standing, T.na_Standing_put, fStn_p, q _ hP⟩
theorem ok_Runner_steps (T : Facts w K mg) : OkM P w K mg base CX0 1 (ga K "SceneRunner") "steps" ["self"] (spSteps K) := by
  refine T.d_SceneRunner_steps.ok sc_SceneRunner_steps bb_SceneRunner_steps (fun vs H Q E h => ?_) (fun f cdv A outer s H vs Q E hr h => ?_)
  · obtain ⟨_, _, _, _, _, _, _, _, rfl, _⟩ := h; rfl
  obtain ⟨r, pl, sc, bx, cells, rs, zs, ps, rfl, R, q⟩ := h
  obtain ⟨dx, hr0⟩ := R.ob
  obtain ⟨vs, hpl, hvs⟩ := R.pl
  refine ⟨_, (pss_one (ps_ret (pe_op op_sub (pe_callB call_len_seq (by rfl) T.b_len PySem.boot_len (pa_cons (pe_fld (pv 0) rfl) pa_nil)) pe_int))), ?_⟩
  refine ⟨_, rfl, r, _, dx, _, _, rfl, hr0, T.cl_SceneRunner, T.na_SceneRunner_past, fRun_p, pl, _, rfl, .inl (SqL.of hpl), _, _, rfl, rfl, ?_⟩
  rw [← hvs.len] at q
  exact q
theorem ok_Runner_opened (T : Facts w K mg) : OkM P w K mg base CX0 1 (ga K "SceneRunner") "opened" ["self"] (spOpened K) := by
  refine T.d_SceneRunner_opened.ok sc_SceneRunner_opened bb_SceneRunner_opened (fun vs H Q E h => ?_) (fun f cdv A outer s H vs Q E hr h => ?_)
  · obtain ⟨_, _, _, _, _, _, _, _, _, rfl, _⟩ := h; rfl
  obtain ⟨r, pl, sc, bx, cells, rs, zs, ps, st, rfl, R, q⟩ := h
  obtain ⟨dx, hr0⟩ := R.ob
  obtain ⟨vs, v, hpl, hS, hvs, hg⟩ := R.last
  obtain ⟨a, sdx, po, vh, vp, rfl, ha, hO, hh, hP⟩ := id hS
  obtain ⟨ovs, hop, hov⟩ := id hO
  have ol := hov.len
  have few := hg.few
  refine ⟨_, (pss_one (ps_ret (pe_callTy call_tuple_of (by rfl) T.b_tuple bv_tuple (pa_cons (pe_lc (own := [("number", 1), ("levels", 2)]) (g := (gTup K 2 (gCons (gName 1) (gCons (gName 2) gNil)))) (tt := tYes) rfl sc_SceneRunner_opened.nd (pi_tup (pe_fld (pe_ix ix_list (pe_fld (pv 0) rfl) (pe_un un_neg pe_int) (fun _ _ => rfl)) rfl)) (blkOk_by (N := N_SceneRunner_opened) (sc := defScope s_SceneRunner_opened) (by decide +kernel)) (fun _ _ _ _ _ => (pg_tup rfl (pgs_cons (pg_name (i := 1) sc_SceneRunner_opened.nd rfl (Or.inl rfl)) (pgs_cons (pg_name (i := 2) sc_SceneRunner_opened.nd rfl (Or.inl rfl)) pgs_nil)))) (fun _ _ _ _ _ => pts_nil) (fun _ _ _ _ _ => (pv 1))) pa_nil)))), ?_⟩
  refine ⟨_, rfl, r, _, dx, _, _, rfl, hr0, T.cl_SceneRunner, T.na_SceneRunner_past, fRun_p, _, rfl, _, _, _, _, rfl, rfl, SqL.of hpl, at_last rfl, a, _, sdx, _, _, rfl, ha, T.cl_Standing, T.na_Standing_open_routines, fStn_o, po, rfl, ⟨_, SqT.of hop⟩, fun D hD => ?_⟩
  have hrev : All2 (RouA H) ovs.reverse st.op.reverse := by
    have : ∀ {xs : List V} {ys : Opn}, All2 (RouA H) xs ys → All2 (RouA H) xs.reverse ys.reverse := by
      intro xs ys h
      induction h with
      | nil => exact .nil
      | cons a _ ih => rw [List.reverse_cons, List.reverse_cons]; exact ih.snoc a
    exact this hov
  refine lc_tup (xs := ovs.reverse) (fun i H' => Same H H' ∧ H' D = some (.lst ((st.op.reverse.take i).map fun r => V.int (r.1 : Int)))) ⟨Same.new hD, upd_same⟩ ?_ ?_ ?_
  · rintro i H' hi ⟨g, h1⟩
    exact SqT.of (g.at_ hop)
  · rintro i v H' hi ⟨g, h1⟩
    obtain ⟨ro, hro, ra, q2, rfl, hra, _⟩ := hrev.get' hi
    have hi2 := (List.getElem?_eq_some_iff.mp hi).1
    refine ⟨_, _, rfl, SqT.of (g.at_ hra), rfl, _, _, rfl, _, _, rfl, rfl, rfl, _, rfl, _, h1, ?_, Same.mut g hD, ?_⟩
    · rw [List.length_map, List.length_take]; rw [List.length_reverse] at hi2; exact szlt (by omega)
    · rw [upd_same, List.take_add_one, hro, List.map_append]; rfl
  · rintro H' ⟨g, h1⟩
    have e : (ovs.reverse).length = st.op.reverse.length := by rw [List.length_reverse, List.length_reverse, ol]
    rw [e, List.take_length] at h1
    refine ⟨D, _, rfl, .inl ⟨SqL.of h1, fun l hl => q _ _ (Same.then_ g hl) ⟨l, rfl, ?_⟩⟩⟩
    rw [upd_same, List.map_reverse]
theorem ok_Runner_step (T : Facts w K mg) : OkM P w K mg base (L2.CX P w) 7 (ga K "SceneRunner") "step" ["self"] (spStep K) := by
  have G_SceneRunner_word := ok_Runner_word (P := P) (base := base) T
  have G_behind_step := ok_behind_step (P := P) (base := base) T
  refine T.d_SceneRunner_step.okX sc_SceneRunner_step bb_SceneRunner_step (fun vs H Q E h => ?_) (fun f cdv A outer s H vs Q E hr h => ?_)
  · obtain ⟨_, _, _, _, _, _, _, _, _, rfl, _⟩ := h; rfl
  obtain ⟨r, pl, sc, bx, cells, rs, zs, ps, st, rfl, R, O, hl, q1, q2⟩ := h
  refine ⟨_, (pss_cons (ps_if (pt_cmpR op_ne (pe_mcal0 G_SceneRunner_word T.cl_SceneRunner (hr.mono (by first | decide | omega)) (pv 0)) (pe_gs T.c_RUNS) (nomark _)) (pss_one (ps_raise rfl (takes_of rfl rfl rfl rfl) (pmk_own0 PySem.F.excBase_ValueError T.x_NotRunning.x T.g_NotRunning T.x_NotRunning.k (raises_own T.x_NotRunning.b T.x_NotRunning.t) (by rfl)))) pss_nil)
      (pss_one (ps_expr (pe_bm PySem.F.plainAttrs_list PySem.F.slot_list_append PySem.F.type_list_append mt_append (pe_fld (pv 0) rfl) (pa_cons (pe_cal G_behind_step (hr.mono (by first | decide | omega)) (pa_cons (pe_fld (pv 0) rfl) (pa_cons (pe_fld (pv 0) rfl) (pa_cons (pe_ix ix_list (pe_fld (pv 0) rfl) (pe_un un_neg pe_int) (fun _ _ => rfl)) pa_nil)))) pa_nil))))), ?_⟩
  obtain ⟨dx0, hr00⟩ := R.ob
  refine ⟨_, rfl, r, dx0, _, rfl, hr00, fRun_no (by decide +kernel) (by decide +kernel) (by decide +kernel), r, pl, sc, bx, cells, rs, zs, ps, st, rfl, R, O, fun H1 g1 => ⟨rfl, _, rfl, ?_⟩⟩
  have R1 := R.same g1
  obtain ⟨dx, hr0⟩ := R1.ob
  obtain ⟨vs, v, hpl, hS, hvs, hg⟩ := R1.last
  have vl := hvs.len
  have ewr : (!decide (V.str (wrS (wordP zs.length st)) = V.str "runs")) = !decide (wordP zs.length st = .runs) := by cases wordP zs.length st <;> decide +kernel
  by_cases c : wordP zs.length st = .runs
  · refine itF (by rw [ewr, decide_eq_true c]; rfl) ?_
    refine ⟨_, rfl, r, _, dx, _, _, rfl, hr0, T.cl_SceneRunner, T.na_SceneRunner_past, fRun_p, .inl ⟨rfl, _, SqL.of hpl⟩, ?_⟩
    refine ⟨_, rfl, r, _, dx, _, _, rfl, hr0, T.cl_SceneRunner, T.na_SceneRunner_scene, fRun_s, _, rfl, r, _, dx, _, _, rfl, hr0, T.cl_SceneRunner, T.na_SceneRunner_sized, fRun_b, _, rfl, r, _, dx, _, _, rfl, hr0, T.cl_SceneRunner, T.na_SceneRunner_past, fRun_p, _, rfl, _, _, _, _, rfl, rfl, SqL.of hpl, at_last rfl, ?_⟩
    refine ⟨sc, bx, v, cells, rs, zs, st, rfl, R1.sc, R1.bx, hS, O.st hg, c, fun v' H2 g2 hS' => ?_⟩
    have hpl2 := g2.at_ hpl
    refine ⟨pl, _, _, rfl, rfl, hpl2, szlt (by rw [List.length_append, List.length_singleton]; omega), ?_⟩
    have R2 := R1.same g2
    have gE : Ext pl H (upd H2 pl (.lst (vs ++ [v] ++ [v']))) := (Same.ext (g1.trans g2)).upd
    have gE2 : Ext pl H2 (upd H2 pl (.lst (vs ++ [v] ++ [v']))) := Ext.refl.upd
    have kk := gE2.kpL hpl2
    refine q1 c _ gE ⟨let ⟨dx', e'⟩ := R2.ob; ⟨dx', kk.i _ _ _ _ e'⟩, ⟨_, upd_same, ?_⟩, R2.sc.mono kk, R2.bx.mono kk, ?_, by simp⟩
    · exact ((((hvs.mono fun _ _ r => r.mono (Same.kp g2)).snoc (hS.mono (Same.kp g2))).snoc hS').mono fun _ _ r => r.mono kk)
    · intro s' hs'
      rcases List.mem_append.mp hs' with m | m
      · exact R2.good s' m
      · have : s' = behindP rs zs st := by simpa using m
        rw [this]
        exact hg.step O.R c
  · exact itT (by rw [ewr, decide_eq_false c]; rfl) (q2 c H1 g1)
theorem ok_Runner_back (T : Facts w K mg) : OkM P w K mg base (L2.CX P w) 1 (ga K "SceneRunner") "back" ["self"] (spBack K) := by
  refine T.d_SceneRunner_back.okX sc_SceneRunner_back bb_SceneRunner_back (fun vs H Q E h => ?_) (fun f cdv A outer s H vs Q E hr h => ?_)
  · obtain ⟨_, _, _, _, _, _, _, _, _, rfl, _⟩ := h; rfl
  obtain ⟨r, pl, sc, bx, cells, rs, zs, ps, st, rfl, R, q1, q2⟩ := h
  refine ⟨_, (pss_cons (ps_if (pt_cmpR op_eq (pe_callB call_len_seq (by rfl) T.b_len PySem.boot_len (pa_cons (pe_fld (pv 0) rfl) pa_nil)) pe_int (nomark _)) (pss_one (ps_raise rfl (takes_of rfl rfl rfl rfl) (pmk_own0 PySem.F.excBase_ValueError T.x_NothingDone.x T.g_NothingDone T.x_NothingDone.k (raises_own T.x_NothingDone.b T.x_NothingDone.t) (by rfl)))) pss_nil)
      (pss_one (ps_expr (pe_bm0 PySem.F.plainAttrs_list PySem.F.slot_list_pop PySem.F.type_list_pop mt_pop (pe_fld (pv 0) rfl))))), ?_⟩
  obtain ⟨dx, hr0⟩ := R.ob
  obtain ⟨vs, v, hpl, hS, hvs, hg⟩ := R.last
  have vl := hvs.len
  refine ⟨_, rfl, r, _, dx, _, _, rfl, hr0, T.cl_SceneRunner, T.na_SceneRunner_past, fRun_p, pl, _, rfl, .inl (SqL.of hpl), rfl, _, rfl, ?_⟩
  by_cases c : ps = []
  · exact itT (decide_eq_true (by rw [List.length_append, vl, c]; rfl)) (q2 c)
  · refine itF (decide_eq_false ?_) ?_
    · intro z
      have := V.int.inj z
      rw [List.length_append, vl, List.length_singleton] at this
      have := List.length_pos_iff.mpr c
      omega
    refine ⟨_, rfl, r, _, dx, _, _, rfl, hr0, T.cl_SceneRunner, T.na_SceneRunner_past, fRun_p, .inl ⟨rfl, _, SqL.of hpl⟩, pl, _, v, rfl, rfl, hpl, ?_, ?_⟩
    · rw [List.length_append, List.length_singleton, Nat.add_sub_cancel, List.getElem?_append_right (Nat.le_refl _), Nat.sub_self]; rfl
    · rw [List.dropLast_concat]
      have gE : Ext pl H (upd H pl (.lst vs)) := Ext.refl.upd
      have kk := gE.kpL hpl
      refine q1 c _ gE ⟨let ⟨dx', e'⟩ := R.ob; ⟨dx', kk.i _ _ _ _ e'⟩, ⟨vs, upd_same, hvs.mono fun _ _ r => r.mono kk⟩, R.sc.mono kk, R.bx.mono kk, fun s' m => R.good s' (List.mem_append_left _ m), c⟩
end
end K34

set_option Elab.async false
set_option linter.all false
set_option maxRecDepth 100000
set_option maxHeartbeats 4000000
/-! D8: the runner's go, copy. -/
namespace K34
open PySem PySem.Spec PyProof.Rows L2
open He (ga ma)
section
variable {P : Program} {w : World} {K : PySem.W.Frag} {mg : Str → Option Value} {base : Heap}
theorem ok_Runner_go (T : Facts w K mg) : OkM P w K mg base (L2.CX P w) 8 (ga K "SceneRunner") "go" ["self", "most"] (spGo K) := by
  have G_SceneRunner_word := ok_Runner_word (P := P) (base := base) T
  have G_SceneRunner_step := ok_Runner_step (P := P) (base := base) T
  have G_check_number := ok_check_number (P := P) (base := base) T
  refine T.d_SceneRunner_go.okX sc_SceneRunner_go bb_SceneRunner_go (fun vs H Q E h => ?_) (fun f cdv A outer s H vs Q E hr h => ?_)
  · obtain ⟨_, _, _, _, _, _, _, _, _, _, _, rfl, _⟩ := h; rfl
  obtain ⟨r, pl, sc, bx, v, t, cells, rs, zs, ps, st, rfl, R, O, hl, hk, q1, q2⟩ := h
  refine ⟨_, (pss_cons (ps_expr (pe_calW G_check_number (hr.mono (by first | decide | omega)) (takes_of rfl rfl rfl rfl) (pa_cons (pv 1) (pa_cons pe_int (pa_cons (pe_gi T.c_MOST_STEPS) pa_nil))))) (PSs.nox (pss_cons (ps_set (i := 2) sc_SceneRunner_go.nd rfl (Or.inl rfl) pe_int)
      (pss_cons (ps_while PassesOwn.never (PW.pt (pw_and (pt_cmpR op_lt (pv 2) (pv 1) (nomark _)) (pw_and1 (pt_cmpR op_eq (pe_mcal0 G_SceneRunner_word T.cl_SceneRunner (hr.mono (by first | decide | omega)) (pv 0)) (pe_gs T.c_RUNS) (nomark _))))) (pss_cons (ps_expr (pe_mcal0 G_SceneRunner_step T.cl_SceneRunner (hr.mono (by first | decide | omega)) (pv 0)))
      (pss_one (ps_aug (i := 2) sc_SceneRunner_go.nd rfl (Or.inl rfl) pe_int ip_add))))
      (pss_one (ps_ret (pv 2))))))), ?_⟩
  refine ⟨_, rfl, v, 0, 5000, t, rfl, hk, fun c => ?_, fun c => q1 c⟩
  obtain ⟨n, rfl, hn, q⟩ := q2 c
  refine while_m (fun m σ H' => ∃ (i : Nat) (acc : List PSt) (s1 : PSt), σ = [some (.ref r), some (.int (n : Int)), some (.int (i : Int))] ∧ i + m = n ∧ Ext pl H H' ∧ RunA K H' r pl sc bx cells rs zs (acc ++ [s1]) ∧ (acc ++ [s1]).length = (ps ++ [st]).length + i ∧ goneP rs zs zs.length m (acc ++ [s1]) s1 = goneP rs zs zs.length n (ps ++ [st]) st) n ⟨0, ps, st, rfl, by omega, Ext.refl, R, rfl, rfl⟩ ?_
  rintro m σ H' ⟨i, acc, s1, rfl, him, gE, R1, hla, hg⟩
  have hla2 : acc.length = ps.length + i := by
    rw [List.length_append, List.length_append, List.length_singleton, List.length_singleton] at hla; omega
  refine ⟨_, rfl, _, rfl, _, _, rfl, rfl, _, rfl, ?_⟩
  have fin : goneP rs zs zs.length m (acc ++ [s1]) s1 = acc ++ [s1] → ∀ H2, Same H' H2 → Q (.int (i : Int)) H2 := fun e H2 g2 => by
    rw [e] at hg
    have gE2 := gE.thenSame g2
    have := q H2 gE2 (by rw [← hg]; exact R1.same g2)
    rw [← hg, hla] at this
    have e3 : ((((ps ++ [st]).length + i : Nat) : Int) - ((ps ++ [st]).length : Int)) = (i : Int) := by omega
    rw [e3] at this
    exact this
  cases m with
  | zero => exact itF (decide_eq_false (by omega)) ⟨_, rfl, fin rfl _ Same.refl'⟩
  | succ m =>
    refine itT (decide_eq_true (by omega)) ?_
    obtain ⟨dx, hr0⟩ := R1.ob
    refine ⟨_, rfl, r, dx, _, rfl, hr0, fRun_no (by decide +kernel) (by decide +kernel) (by decide +kernel), r, pl, sc, bx, cells, rs, zs, acc, s1, rfl, R1, O, fun H1 g1 => ⟨rfl, _, rfl, ?_⟩⟩
    have ewr : decide (V.str (wrS (wordP zs.length s1)) = V.str "runs") = decide (wordP zs.length s1 = .runs) := by cases wordP zs.length s1 <;> decide +kernel
    by_cases c : wordP zs.length s1 = .runs
    · refine itT (by rw [ewr, decide_eq_true c]) ?_
      have R2 := R1.same g1
      obtain ⟨dx2, hr2⟩ := R2.ob
      refine ⟨fun σ' H'' => ∃ m', m' < m + 1 ∧ _, fun σ' H'' h => h, ?_⟩
      refine ⟨_, rfl, r, dx2, _, rfl, hr2, fRun_no (by decide +kernel) (by decide +kernel) (by decide +kernel), r, pl, sc, bx, cells, rs, zs, acc, s1, rfl, R2, O, by omega, fun _ H3 gE3 R3 => ?_, fun z => absurd c z⟩
      refine ⟨_, rfl, _, _, rfl, rfl, m, by omega, i + 1, acc ++ [s1], behindP rs zs s1, rfl, by omega, (gE.thenSame g1).trans gE3, R3, ?_, ?_⟩
      · rw [List.length_append, hla, List.length_singleton]; omega
      · rw [← hg]
        show _ = (if wordP zs.length s1 = .runs then goneP rs zs zs.length m (acc ++ [s1] ++ [behindP rs zs s1]) (behindP rs zs s1) else acc ++ [s1])
        rw [if_pos c]
    · refine itF (by rw [ewr, decide_eq_false c]) ⟨_, rfl, fin ?_ H1 g1⟩
      show (if wordP zs.length s1 = .runs then goneP rs zs zs.length m (acc ++ [s1] ++ [behindP rs zs s1]) (behindP rs zs s1) else acc ++ [s1]) = _
      rw [if_neg c]
theorem ok_Runner_copy (T : Facts w K mg) : OkM P w K mg base CX0 6 (ga K "SceneRunner") "copy" ["self"] (spCopy K) := by
  have C_SceneRunner := ok_Runner (P := P) (base := base) T
  refine T.d_SceneRunner_copy.ok sc_SceneRunner_copy bb_SceneRunner_copy (fun vs H Q E h => ?_) (fun f cdv A outer s H vs Q E hr h => ?_)
  · obtain ⟨_, _, _, _, _, _, _, _, rfl, _⟩ := h; rfl
  obtain ⟨r, pl, sc, bx, cells, rs, zs, ps, rfl, R, O, q⟩ := h
  refine ⟨_, (pss_cons (ps_set (i := 1) sc_SceneRunner_copy.nd rfl (Or.inl rfl) (pe_mk C_SceneRunner (hr.mono (by first | decide | omega)) (pa_cons (pe_fld (pv 0) rfl) (pa_cons (pe_fld (pv 0) rfl) (pa_cons (pe_fld (pe_ix ix_list (pe_fld (pv 0) rfl) pe_int (fun _ _ => rfl)) rfl) pa_nil)))))
      (pss_cons (ps_fld (pv 1) (pe_callTy call_list_of (by rfl) T.b_list bv_list (pa_cons (pe_fld (pv 0) rfl) pa_nil)) rfl)
      (pss_one (ps_ret (pv 1))))), ?_⟩
  obtain ⟨dx, hr0⟩ := R.ob
  obtain ⟨vs, hpl, hvs⟩ := R.pl
  obtain ⟨sf, ps', eps⟩ : ∃ s0 ps', ps = s0 :: ps' := by
    cases ps with
    | nil => exact absurd rfl R.ne
    | cons a b => exact ⟨a, b, rfl⟩
  have hgf := R.good sf (by rw [eps]; simp)
  obtain ⟨v0, ev0, hS⟩ := hvs.get (i := 0) (y := sf) (by rw [eps]; rfl)
  obtain ⟨a, sdx, po, vh, vp, rfl, ha, hO, hh, hP⟩ := id hS
  refine ⟨_, rfl, r, _, dx, _, _, rfl, hr0, T.cl_SceneRunner, T.na_SceneRunner_scene, fRun_s, _, rfl, r, _, dx, _, _, rfl, hr0, T.cl_SceneRunner, T.na_SceneRunner_sized, fRun_b, _, rfl, r, _, dx, _, _, rfl, hr0, T.cl_SceneRunner, T.na_SceneRunner_past, fRun_p, _, _, _, _, rfl, rfl, SqL.of hpl, atI_nat (j := 0) ev0, a, _, sdx, _, _, rfl, ha, T.cl_Standing, T.na_Standing_held, fStn_h, ?_⟩
  intro x xd nx nxd nex
  have g1 : Same H (upd (upd H xd (.own x)) x (.ins (ga K "SceneRunner") xd [])) := Same.mut (Same.mut Same.refl' nxd) nx
  refine ⟨x, xd, sc, bx, vh, cells, rs, zs, true, rfl, upd_same, R.sc.mono (Same.kp g1), R.bx.mono (Same.kp g1), O, cont_of (hh.mono (Same.tups g1)) hgf.held O.c5, (fun z => by cases z), fun _ => ⟨sf.held, hh.mono (Same.tups g1), hgf.held, fun H2 pl1 gE npl nplo R2 => ⟨rfl, ?_⟩⟩⟩
  have g2 : Same H H2 := Same.ext1 g1 nx gE
  have R' := R.same g2
  obtain ⟨dx', hr0'⟩ := R'.ob
  obtain ⟨dx2, hx2⟩ := R2.ob
  refine ⟨_, rfl, r, _, dx', _, _, rfl, hr0', T.cl_SceneRunner, T.na_SceneRunner_past, fRun_p, pl, _, rfl, .inl (SqL.of (g2.at_ hpl)), fun l hl => ?_⟩
  have g3 : Same H2 (upd H2 l (.lst vs)) := Same.new hl
  have hx3 := g3.at_ hx2
  refine ⟨_, rfl, x, _, dx2, _, rfl, hx3, T.cl_SceneRunner, T.na_SceneRunner_past, (by show 3 < 1000; decide), _, rfl, ?_⟩
  have nlx : l ≠ x := by
    intro e
    subst e
    rw [hx2] at hl
    cases hl
  have gF : Same H (upd (upd H2 l (.lst vs)) x (.ins (ga K "SceneRunner") dx2 (putF "past" (.ref l) (fRun (.ref sc) (.ref bx) (.ref pl1))))) := Same.mut (g2.trans g3) nx
  have RF := R.same gF
  refine q x l _ gF ?_ ⟨⟨dx2, by rw [upd_same, fRun_past]⟩, ⟨vs, by rw [upd_ne nlx]; exact upd_same, hvs.mono fun _ _ r => r.mono (Same.kp gF)⟩, RF.sc, RF.bx, R.good, R.ne⟩
  cases e : H l with
  | none => rfl
  | some u => rw [g2.at_ e] at hl; cases hl
end
end K34

set_option Elab.async false
set_option linter.all false
set_option maxRecDepth 100000
set_option maxHeartbeats 4000000
/-! D9: drawing: any number within its bounds; sums, tests, numbers of boxes. -/
namespace K34
open PySem PySem.Spec PyProof.Rows L2
open He (ga ma)
def hkv (c a g s t : V) : List (Key × V) := [(.inr "cells", c), (.inr "at", a), (.inr "great", g), (.inr "seed", s), (.inr "turn", t)]
theorem kne {x y : Str} (h : x ≠ y) : ¬ (Sum.inr x : Key) = .inr y := fun e => h (Sum.inr.inj e)
section
variable {c a g s t x : V}
theorem kv_c : valV (hkv c a g s t) (.inr "cells") = some c := valV_pos rfl
theorem kv_a : valV (hkv c a g s t) (.inr "at") = some a := (valV_neg (kne (by decide +kernel))).trans (valV_pos rfl)
theorem kv_g : valV (hkv c a g s t) (.inr "great") = some g := (valV_neg (kne (by decide +kernel))).trans ((valV_neg (kne (by decide +kernel))).trans (valV_pos rfl))
theorem kv_s : valV (hkv c a g s t) (.inr "seed") = some s := (valV_neg (kne (by decide +kernel))).trans ((valV_neg (kne (by decide +kernel))).trans ((valV_neg (kne (by decide +kernel))).trans (valV_pos rfl)))
theorem kv_t : valV (hkv c a g s t) (.inr "turn") = some t := (valV_neg (kne (by decide +kernel))).trans ((valV_neg (kne (by decide +kernel))).trans ((valV_neg (kne (by decide +kernel))).trans ((valV_neg (kne (by decide +kernel))).trans (valV_pos rfl))))
theorem n1 : ¬ ("cells" : Str) = "at" := by decide +kernel
theorem n2 : ¬ ("cells" : Str) = "great" := by decide +kernel
theorem n3 : ¬ ("cells" : Str) = "seed" := by decide +kernel
theorem n4 : ¬ ("cells" : Str) = "turn" := by decide +kernel
theorem n5 : ¬ ("at" : Str) = "great" := by decide +kernel
theorem n6 : ¬ ("at" : Str) = "seed" := by decide +kernel
theorem n7 : ¬ ("at" : Str) = "turn" := by decide +kernel
theorem n8 : ¬ ("great" : Str) = "seed" := by decide +kernel
theorem n9 : ¬ ("great" : Str) = "turn" := by decide +kernel
theorem n10 : ¬ ("seed" : Str) = "turn" := by decide +kernel
theorem m5 : ¬ ("great" : Str) = "at" := fun e => n5 e.symm
theorem m6 : ¬ ("seed" : Str) = "at" := fun e => n6 e.symm
theorem m7 : ¬ ("turn" : Str) = "at" := fun e => n7 e.symm
theorem m8 : ¬ ("seed" : Str) = "great" := fun e => n8 e.symm
theorem m9 : ¬ ("turn" : Str) = "great" := fun e => n9 e.symm
theorem m10 : ¬ ("turn" : Str) = "seed" := fun e => n10 e.symm
theorem kp_a : putK (hkv c a g s t) (.inr "at") x = hkv c x g s t := by simp [putK, hkv, n1, m5, m6, m7]
theorem kp_g : putK (hkv c a g s t) (.inr "great") x = hkv c a x s t := by simp [putK, hkv, n2, n5, m8, m9]
theorem kp_s : putK (hkv c a g s t) (.inr "seed") x = hkv c a g x t := by simp [putK, hkv, n3, n6, n8, m10]
theorem kp_t : putK (hkv c a g s t) (.inr "turn") x = hkv c a g s x := by simp [putK, hkv, n4, n7, n9, n10]
variable {H : Hp} {h : Addr}
theorem dg_c (e : H h = some (.dK (hkv c a g s t))) : DGet H h (.str "cells") (some c) := by have := DGet.k (k := Sum.inr "cells") e; rw [kv_c] at this; exact this
theorem dg_a (e : H h = some (.dK (hkv c a g s t))) : DGet H h (.str "at") (some a) := by have := DGet.k (k := Sum.inr "at") e; rw [kv_a] at this; exact this
theorem dg_g (e : H h = some (.dK (hkv c a g s t))) : DGet H h (.str "great") (some g) := by have := DGet.k (k := Sum.inr "great") e; rw [kv_g] at this; exact this
theorem dg_s (e : H h = some (.dK (hkv c a g s t))) : DGet H h (.str "seed") (some s) := by have := DGet.k (k := Sum.inr "seed") e; rw [kv_s] at this; exact this
theorem dg_t (e : H h = some (.dK (hkv c a g s t))) : DGet H h (.str "turn") (some t) := by have := DGet.k (k := Sum.inr "turn") e; rw [kv_t] at this; exact this
theorem hl5 : (hkv c a g s t).length < sizeLine := by show 5 < sizeLine; decide
theorem dp_a (e : H h = some (.dK (hkv c a g s t))) : DPut H h (.str "at") x (upd H h (.dK (hkv c x g s t))) := by have := DPut.k (k := Sum.inr "at") (v := x) e hl5; rw [kp_a] at this; exact this
theorem dp_g (e : H h = some (.dK (hkv c a g s t))) : DPut H h (.str "great") x (upd H h (.dK (hkv c a x s t))) := by have := DPut.k (k := Sum.inr "great") (v := x) e hl5; rw [kp_g] at this; exact this
theorem dp_s (e : H h = some (.dK (hkv c a g s t))) : DPut H h (.str "seed") x (upd H h (.dK (hkv c a g x t))) := by have := DPut.k (k := Sum.inr "seed") (v := x) e hl5; rw [kp_s] at this; exact this
theorem dp_t (e : H h = some (.dK (hkv c a g s t))) : DPut H h (.str "turn") x (upd H h (.dK (hkv c a g s x))) := by have := DPut.k (k := Sum.inr "turn") (v := x) e hl5; rw [kp_t] at this; exact this
end
/-- the hand at h, its cells at c -/
def Hand (c : Addr) (H : Hp) (h : Addr) : Prop := ∃ (cells : List Int) (a g s t : Int), H h = some (.dK (hkv (.ref c) (.int a) (.int g) (.int s) (.int t))) ∧ H c = some (.lst (cells.map V.int)) ∧ 0 ≤ a
theorem Hand.dk {c : Addr} {H : Hp} {h : Addr} (x : Hand c H h) : ∃ kvs : List (Key × V), H h = some (.dK kvs) := let ⟨_, _, _, _, _, e, _⟩ := x; ⟨_, e⟩
theorem Hand.same {c : Addr} {H H' : Hp} {h : Addr} (x : Hand c H h) (g : Same H H') : Hand c H' h := let ⟨cells, a, gr, s, t, e, e2, z⟩ := x; ⟨cells, a, gr, s, t, g.at_ e, g.at_ e2, z⟩
/-- all but the hand; what it knew of others stands -/
structure Hx (h c : Addr) (H H' : Hp) : Prop where
  e : Ext h H H'
  h0 : Hand c H h
  h1 : Hand c H' h
section
variable {H H1 H2 H' : Hp} {h c p a : Addr} {o : HO}
theorem Hx.refl (x : Hand c H h) : Hx h c H H := ⟨Ext.refl, x, x⟩
theorem Hx.trans (x : Hx h c H H1) (y : Hx h c H1 H2) : Hx h c H H2 := ⟨x.e.trans y.e, x.h0, y.h1⟩
theorem Hx.same (x : Hx h c H H1) (y : Same H1 H2) : Hx h c H H2 := ⟨x.e.thenSame y, x.h0, x.h1.same y⟩
theorem Hx.new (x : Hx h c H H1) (n : H1 p = none) : Hx h c H (L2.upd H1 p o) := x.same (Same.new n)
theorem Hx.l {xs : List V} (x : Hx h c H H') (e : H a = some (.lst xs)) : H' a = some (.lst xs) := by
  obtain ⟨kvs, k⟩ := x.h0.dk
  exact x.e _ _ e (ne_of e k (by intro z; cases z))
theorem Hx.t {xs : List V} (x : Hx h c H H') (e : H a = some (.tup xs)) : H' a = some (.tup xs) := by
  obtain ⟨kvs, k⟩ := x.h0.dk
  exact x.e _ _ e (ne_of e k (by intro z; cases z))
theorem Hx.tups (x : Hx h c H H') : Tups H H' := fun _ _ e => x.t e
theorem Hx.kp (x : Hx h c H H') : Kp H H' := by
  obtain ⟨kvs, k⟩ := x.h0.dk
  exact x.e.kpD k
theorem Hx.free (x : Hx h c H H') (n : H' a = none) : H a = none := by
  obtain ⟨kvs, k⟩ := x.h0.dk
  obtain ⟨kvs', k'⟩ := x.h1.dk
  exact x.e.free k k' n
/-- what H did not know changes -/
theorem Hx.mut (x : Hx h c H H') (n : H p = none) : Hx h c H (L2.upd H' p o) := by
  obtain ⟨cells, a, gr, s, t, e, e2, z⟩ := x.h0
  obtain ⟨cells', a', gr', s', t', e', e2', z'⟩ := x.h1
  exact ⟨x.e.mut n, x.h0, cells', a', gr', s', t', by rw [upd_ne (ne_of_none e n)]; exact e', by rw [upd_ne (ne_of_none e2 n)]; exact e2', z'⟩
/-- .. by a call -/
theorem Hx.ext1 (x : Hx h c H H1) (n : H p = none) (y : Ext p H1 H2) : Hx h c H H2 := by
  obtain ⟨cells, a, gr, s, t, e, e2, z⟩ := x.h0
  obtain ⟨cells', a', gr', s', t', e', e2', z'⟩ := x.h1
  exact ⟨x.e.ext1 n y, x.h0, cells', a', gr', s', t', y _ _ e' (ne_of_none e n), y _ _ e2' (ne_of_none e2 n), z'⟩
end
theorem fa {P : V → Prop} {x : V} {l : List V} (h : P x) (t : ∀ y ∈ l, P y) : ∀ y ∈ x :: l, P y := fun y m => by
  rcases List.mem_cons.mp m with e | m
  · rw [e]; exact h
  · exact t y m
theorem fn {P : V → Prop} : ∀ y ∈ ([] : List V), P y := fun y m => by cases m
def IntIn (lo hi : Int) (v : V) : Prop := ∃ z, v = .int z ∧ lo ≤ z ∧ z ≤ hi
def spDraw : Sp := fun vs H Q _ => ∃ (h c : Addr) (many : Int), vs = [.ref h, .int many] ∧ Hand c H h ∧ 1 ≤ many ∧ many ≤ 5000 ∧ ∀ (r : Int) H', 0 ≤ r → r < many → Hx h c H H' → Q (.int r) H'
def spAny : Sp := fun vs H Q _ => ∃ (h c l : Addr) (xs : List V) (P : V → Prop), vs = [.ref h, .ref l] ∧ Hand c H h ∧ H l = some (.lst xs) ∧ xs ≠ [] ∧ xs.length ≤ 100 ∧ (∀ x ∈ xs, P x) ∧ ∀ v H', P v → Hx h c H H' → Q v H'
def spLSum : Sp := fun vs H Q _ => ∃ (h c : Addr) (cells : Nat), vs = [.ref h, .int (cells : Int)] ∧ Hand c H h ∧ 1 ≤ cells ∧ cells ≤ 5 ∧ ∀ v s H', Hx h c H H' → SmA H' v s → OkSm cells s → Q v H'
def spLTest : Sp := fun vs H Q _ => ∃ (h c : Addr) (cells : Nat), vs = [.ref h, .int (cells : Int)] ∧ Hand c H h ∧ 1 ≤ cells ∧ cells ≤ 5 ∧ ∀ v t H', Hx h c H H' → TsA H' v t → OkT cells t → Q v H'
def spLNum : Sp := fun vs H Q _ => ∃ (h c : Addr) (cells many : Nat), vs = [.ref h, .int (cells : Int), .int (many : Int)] ∧ Hand c H h ∧ 1 ≤ cells ∧ cells ≤ 5 ∧ 1 ≤ many ∧ many ≤ 4 ∧ ∀ v s H', Hx h c H H' → SmA H' v s → OkSm cells s → Q v H'
theorem ixN_nat {n j : Nat} {r : Int} (e : r = (j : Int)) (h : j < n) : ixN n r = some j := by
  unfold ixN
  rw [e, if_pos (by omega), if_pos (by omega)]
  rfl
theorem okSm_set {cells : Nat} {s : Sm} (h : OkSm cells s) {j : Nat} {z : Int} (hz : -1000 ≤ z ∧ z ≤ 1000) : OkSm cells (s.set j z) := by
  refine ⟨by rw [List.length_set]; exact h.1, fun y m => ?_⟩
  rcases List.mem_or_eq_of_mem_set m with m | e
  · exact h.2 y m
  · rw [e]; exact hz
theorem okSm_new {cells : Nat} {z : Int} (hz : -1000 ≤ z ∧ z ≤ 1000) : OkSm cells (List.replicate cells 0 ++ [z]) := by
  refine ⟨by rw [List.length_append, List.length_replicate]; rfl, fun y m => ?_⟩
  rcases List.mem_append.mp m with m | m
  · rw [List.eq_of_mem_replicate m]; omega
  · have : y = z := by simpa using m
    rw [this]; exact hz
theorem new_map {cells : Nat} {z : Int} : (List.replicate cells (V.int 0)) ++ [V.int z] = (List.replicate cells 0 ++ [z]).map V.int := by
  rw [List.map_append, List.map_replicate]; rfl
section
variable {P : Program} {w : World} {K : PySem.W.Frag} {mg : Str → Option Value} {base : Heap}
theorem ok_draw (T : Facts w K mg) : OkF P w K mg base CX0 1 "_law_draw" ["_law_hand_here", "_law_many"] spDraw := by
  refine T.d__law_draw.ok sc__law_draw bb__law_draw (fun vs H Q E h => ?_) (fun f cdv A outer s H vs Q E hr h => ?_)
  · obtain ⟨_, _, _, rfl, _⟩ := h; rfl
  obtain ⟨h, c, many, rfl, hh, m1, m2, q⟩ := h
  have hu := hu_of hr
  obtain ⟨cells, a, g, sd, t, e, ec, a0⟩ := id hh
  refine ⟨_, (pss_cons (ps_if (PW.pt (pw_and (pt_cmpR op_eq (pe_dget hu (pv 0) pe_str (fun _ _ => rfl)) pe_int (nomark _)) (pw_and1 (pt_cmpR op_lt (pe_dget hu (pv 0) pe_str (fun _ _ => rfl)) (pe_callB call_len_seq (by rfl) T.b_len PySem.boot_len (pa_cons (pe_dget hu (pv 0) pe_str (fun _ _ => rfl)) pa_nil)) (nomark _))))) (pss_cons (ps_set (i := 2) sc__law_draw.nd rfl (Or.inl rfl) (pe_ix ix_list (pe_dget hu (pv 0) pe_str (fun _ _ => rfl)) (pe_dget hu (pv 0) pe_str (fun _ _ => rfl)) (fun _ _ => rfl)))
      (pss_cons (ps_dput hu (pv 0) pe_str (pe_op op_add (pe_dget hu (pv 0) pe_str (fun _ _ => rfl)) pe_int) rfl)
      (pss_cons (ps_dput hu (pv 0) pe_str (pe_op op_mod (pe_callTy call_int1 (by rfl) T.b_int bv_int (pa_cons (pe_op op_add (pe_op op_add (pe_op op_mul (pe_dget hu (pv 0) pe_str (fun _ _ => rfl)) pe_int) (pv 2)) pe_int) pa_nil)) pe_int) rfl)
      (pss_one (ps_if (pt_cmpR op_ge (pv 2) (pe_op op_pow pe_int pe_int) (nomark _)) (pss_one (ps_dput hu (pv 0) pe_str (pv 2) rfl)) pss_nil))))) pss_nil)
      (pss_cons (ps_if (pt_cmpR op_gt (pe_dget hu (pv 0) pe_str (fun _ _ => rfl)) pe_int (nomark _)) (pss_cons (ps_set (i := 3) sc__law_draw.nd rfl (Or.inl rfl) (pe_op op_mod (pe_callTy call_int1 (by rfl) T.b_int bv_int (pa_cons (pe_dget hu (pv 0) pe_str (fun _ _ => rfl)) pa_nil)) (pv 1)))
      (pss_cons (ps_dput hu (pv 0) pe_str (pe_op op_fdiv (pe_dget hu (pv 0) pe_str (fun _ _ => rfl)) (pv 1)) rfl)
      (pss_one (ps_ret (pv 3))))) pss_nil)
      (pss_cons (ps_dput hu (pv 0) pe_str (pe_op op_add (pe_dget hu (pv 0) pe_str (fun _ _ => rfl)) pe_int) rfl)
      (pss_cons (ps_set (i := 4) sc__law_draw.nd rfl (Or.inl rfl) (pe_op op_mod (pe_callTy call_int1 (by rfl) T.b_int bv_int (pa_cons (pe_op op_mul (pe_callTy call_int1 (by rfl) T.b_int bv_int (pa_cons (pe_op op_add (pe_op op_add (pe_dget hu (pv 0) pe_str (fun _ _ => rfl)) pe_int) (pe_op op_mul pe_int (pe_dget hu (pv 0) pe_str (fun _ _ => rfl)))) pa_nil)) pe_int) pa_nil)) pe_int))
      (pss_cons (ps_set (i := 4) sc__law_draw.nd rfl (Or.inl rfl) (pe_op op_mod (pe_callTy call_int1 (by rfl) T.b_int bv_int (pa_cons (pe_op op_mul (pv 4) (pe_op op_add (pe_op op_fdiv (pv 4) pe_int) pe_int)) pa_nil)) pe_int))
      (pss_cons (ps_set (i := 4) sc__law_draw.nd rfl (Or.inl rfl) (pe_op op_mod (pe_callTy call_int1 (by rfl) T.b_int bv_int (pa_cons (pe_op op_mul (pv 4) (pe_op op_add (pe_op op_fdiv (pv 4) pe_int) pe_int)) pa_nil)) pe_int))
      (pss_one (ps_ret (pe_op op_mod (pe_callTy call_int1 (by rfl) T.b_int bv_int (pa_cons (pe_op op_fdiv (pv 4) pe_int) pa_nil)) (pv 1)))))))))), ?_⟩
  refine ⟨_, rfl, h, _, rfl, dg_g e, rfl, _, rfl, ?_⟩
  have nch : c ≠ h := ne_of ec e (by intro z; cases z)
  refine ite2 (fun c1 => ?_) (fun c1 => ?_)
  · refine ⟨_, rfl, h, _, rfl, dg_a e, _, rfl, h, _, rfl, dg_c e, c, _, rfl, .inl (SqL.of ec), _, _, rfl, rfl, _, rfl, ite2 (fun c2 => ?_) (fun c2 => ?_)⟩
    · have c2 : a < ((cells.map V.int).length : Int) := of_decide_eq_true c2
      rw [List.length_map] at c2
      have hat : a.toNat < cells.length := by omega
      have eat : (cells.map V.int)[a.toNat]? = some (.int cells[a.toNat]) := by rw [List.getElem?_map, List.getElem?_eq_getElem hat]; rfl
      refine ⟨_, rfl, h, _, rfl, dg_c e, _, rfl, h, _, rfl, dg_a e, _, _, _, _, rfl, rfl, SqL.of ec, at_ix (i := a.toNat) (by omega) eat, ?_⟩
      generalize cells[a.toNat] = cell
      refine ⟨_, rfl, h, _, rfl, dg_a e, _, _, rfl, rfl, _, rfl, h, _, rfl, dp_a e, ?_⟩
      refine ⟨_, rfl, h, _, rfl, dg_s upd_same, _, _, rfl, rfl, .inr ⟨by decide, by decide⟩, _, rfl, _, _, rfl, rfl, _, _, rfl, rfl, .inl ⟨_, rfl, _, _, rfl, rfl, (by show (0 : Int) < 2147483629; decide), _, rfl, h, _, rfl, dp_s upd_same, ?_⟩⟩
      refine ⟨_, rfl, _, _, rfl, rfl, ⟨by decide, by decide, by decide⟩, _, _, rfl, rfl, _, rfl, ite2 (fun c3 => ?_) (fun c3 => ?_)⟩
      · refine ⟨_, rfl, _, rfl, h, _, rfl, dp_g upd_same, ?_⟩
        have e3 : (upd (upd (upd H h (.dK (hkv (.ref c) (.int (a + 1)) (.int g) (.int sd) (.int t)))) h (.dK (hkv (.ref c) (.int (a + 1)) (.int g) (.int ((sd * 48271 + cell + 7) % 2147483629)) (.int t)))) h (.dK (hkv (.ref c) (.int (a + 1)) (.int cell) (.int ((sd * 48271 + cell + 7) % 2147483629)) (.int t)))) h = _ := upd_same
        have E3 : Ext h H (upd (upd (upd H h (.dK (hkv (.ref c) (.int (a + 1)) (.int g) (.int sd) (.int t)))) h (.dK (hkv (.ref c) (.int (a + 1)) (.int g) (.int ((sd * 48271 + cell + 7) % 2147483629)) (.int t)))) h (.dK (hkv (.ref c) (.int (a + 1)) (.int cell) (.int ((sd * 48271 + cell + 7) % 2147483629)) (.int t)))) := ((Ext.refl.upd).upd).upd
        have ec3 := E3 _ _ ec nch
        refine ⟨_, rfl, h, _, rfl, dg_g e3, _, _, rfl, rfl, _, rfl, ite2 (fun cg => ?_) (fun cg => ?_)⟩
        · refine ⟨_, rfl, h, _, rfl, dg_g e3, .inl ⟨_, rfl, _, rfl, _, _, rfl, rfl, (by show (0 : Int) < many; omega), ?_⟩⟩
          refine ⟨_, rfl, h, _, rfl, dg_g e3, _, rfl, _, _, rfl, rfl, ⟨by show (0 : Int) < many; omega, by show many < 1073741824; omega⟩, _, rfl, h, _, rfl, dp_g e3, ?_⟩
          have md1 := Int.emod_nonneg cell (show many ≠ 0 by omega)
          have md2 := Int.emod_lt_of_pos cell (show (0 : Int) < many by omega)
          exact ⟨_, rfl, q _ _ md1 md2 ⟨Ext.upd E3, hh, cells, _, _, _, _, upd_same, by rw [upd_ne nch]; exact ec3, by omega⟩⟩
        · refine ⟨_, rfl, h, _, rfl, dg_t e3, _, _, rfl, rfl, _, rfl, h, _, rfl, dp_t e3, ?_⟩
          refine ⟨_, rfl, h, _, rfl, dg_s upd_same, _, _, rfl, rfl, _, rfl, h, _, rfl, dg_t upd_same, _, _, rfl, rfl, .inl ⟨by decide, by decide⟩, _, _, rfl, rfl, .inl ⟨_, rfl, _, _, rfl, rfl, .inr ⟨by decide, by decide⟩, .inl ⟨_, rfl, _, _, rfl, rfl, (by show (0 : Int) < 2147483647; decide), ?_⟩⟩⟩
          refine ⟨_, rfl, _, rfl, _, _, rfl, rfl, ⟨by show (0 : Int) < 1009; decide, by show (1009 : Int) < 1073741824; decide⟩, _, _, rfl, rfl, _, _, rfl, rfl, .inl ⟨by omega, by omega⟩, .inl ⟨_, rfl, _, _, rfl, rfl, (by show (0 : Int) < 2147483647; decide), ?_⟩⟩
          refine ⟨_, rfl, _, rfl, _, _, rfl, rfl, ⟨by show (0 : Int) < 2003; decide, by show (2003 : Int) < 1073741824; decide⟩, _, _, rfl, rfl, _, _, rfl, rfl, .inl ⟨by omega, by omega⟩, .inl ⟨_, rfl, _, _, rfl, rfl, (by show (0 : Int) < 2147483399; decide), ?_⟩⟩
          refine ⟨_, rfl, _, _, rfl, rfl, ⟨by show (0 : Int) < 16; decide, by show (16 : Int) < 1073741824; decide⟩, .inl ⟨_, rfl, _, rfl, _, _, rfl, rfl, (by show (0 : Int) < many; omega), ?_⟩⟩
          exact q _ _ (Int.emod_nonneg _ (by omega)) (Int.emod_lt_of_pos _ (by omega)) ⟨Ext.upd E3, hh, cells, _, _, _, _, upd_same, by rw [upd_ne nch]; exact ec3, by omega⟩
      · have e3 : (upd (upd H h (.dK (hkv (.ref c) (.int (a + 1)) (.int g) (.int sd) (.int t)))) h (.dK (hkv (.ref c) (.int (a + 1)) (.int g) (.int ((sd * 48271 + cell + 7) % 2147483629)) (.int t)))) h = _ := upd_same
        have E3 : Ext h H (upd (upd H h (.dK (hkv (.ref c) (.int (a + 1)) (.int g) (.int sd) (.int t)))) h (.dK (hkv (.ref c) (.int (a + 1)) (.int g) (.int ((sd * 48271 + cell + 7) % 2147483629)) (.int t)))) := (Ext.refl.upd).upd
        have ec3 := E3 _ _ ec nch
        refine ⟨_, rfl, h, _, rfl, dg_g e3, _, _, rfl, rfl, _, rfl, ite2 (fun cg => ?_) (fun cg => ?_)⟩
        · refine ⟨_, rfl, h, _, rfl, dg_g e3, .inl ⟨_, rfl, _, rfl, _, _, rfl, rfl, (by show (0 : Int) < many; omega), ?_⟩⟩
          refine ⟨_, rfl, h, _, rfl, dg_g e3, _, rfl, _, _, rfl, rfl, ⟨by show (0 : Int) < many; omega, by show many < 1073741824; omega⟩, _, rfl, h, _, rfl, dp_g e3, ?_⟩
          have md1 := Int.emod_nonneg g (show many ≠ 0 by omega)
          have md2 := Int.emod_lt_of_pos g (show (0 : Int) < many by omega)
          exact ⟨_, rfl, q _ _ md1 md2 ⟨Ext.upd E3, hh, cells, _, _, _, _, upd_same, by rw [upd_ne nch]; exact ec3, by omega⟩⟩
        · refine ⟨_, rfl, h, _, rfl, dg_t e3, _, _, rfl, rfl, _, rfl, h, _, rfl, dp_t e3, ?_⟩
          refine ⟨_, rfl, h, _, rfl, dg_s upd_same, _, _, rfl, rfl, _, rfl, h, _, rfl, dg_t upd_same, _, _, rfl, rfl, .inl ⟨by decide, by decide⟩, _, _, rfl, rfl, .inl ⟨_, rfl, _, _, rfl, rfl, .inr ⟨by decide, by decide⟩, .inl ⟨_, rfl, _, _, rfl, rfl, (by show (0 : Int) < 2147483647; decide), ?_⟩⟩⟩
          refine ⟨_, rfl, _, rfl, _, _, rfl, rfl, ⟨by show (0 : Int) < 1009; decide, by show (1009 : Int) < 1073741824; decide⟩, _, _, rfl, rfl, _, _, rfl, rfl, .inl ⟨by omega, by omega⟩, .inl ⟨_, rfl, _, _, rfl, rfl, (by show (0 : Int) < 2147483647; decide), ?_⟩⟩
          refine ⟨_, rfl, _, rfl, _, _, rfl, rfl, ⟨by show (0 : Int) < 2003; decide, by show (2003 : Int) < 1073741824; decide⟩, _, _, rfl, rfl, _, _, rfl, rfl, .inl ⟨by omega, by omega⟩, .inl ⟨_, rfl, _, _, rfl, rfl, (by show (0 : Int) < 2147483399; decide), ?_⟩⟩
          refine ⟨_, rfl, _, _, rfl, rfl, ⟨by show (0 : Int) < 16; decide, by show (16 : Int) < 1073741824; decide⟩, .inl ⟨_, rfl, _, rfl, _, _, rfl, rfl, (by show (0 : Int) < many; omega), ?_⟩⟩
          exact q _ _ (Int.emod_nonneg _ (by omega)) (Int.emod_lt_of_pos _ (by omega)) ⟨Ext.upd E3, hh, cells, _, _, _, _, upd_same, by rw [upd_ne nch]; exact ec3, by omega⟩
    · have E3 : Ext h H H := Ext.refl
      refine ⟨_, rfl, h, _, rfl, dg_g e, _, _, rfl, rfl, _, rfl, ite2 (fun cg => ?_) (fun cg => ?_)⟩
      · refine ⟨_, rfl, h, _, rfl, dg_g e, .inl ⟨_, rfl, _, rfl, _, _, rfl, rfl, (by show (0 : Int) < many; omega), ?_⟩⟩
        refine ⟨_, rfl, h, _, rfl, dg_g e, _, rfl, _, _, rfl, rfl, ⟨by show (0 : Int) < many; omega, by show many < 1073741824; omega⟩, _, rfl, h, _, rfl, dp_g e, ?_⟩
        have md1 := Int.emod_nonneg g (show many ≠ 0 by omega)
        have md2 := Int.emod_lt_of_pos g (show (0 : Int) < many by omega)
        exact ⟨_, rfl, q _ _ md1 md2 ⟨Ext.upd E3, hh, cells, _, _, _, _, upd_same, by rw [upd_ne nch]; exact ec, by omega⟩⟩
      · refine ⟨_, rfl, h, _, rfl, dg_t e, _, _, rfl, rfl, _, rfl, h, _, rfl, dp_t e, ?_⟩
        refine ⟨_, rfl, h, _, rfl, dg_s upd_same, _, _, rfl, rfl, _, rfl, h, _, rfl, dg_t upd_same, _, _, rfl, rfl, .inl ⟨by decide, by decide⟩, _, _, rfl, rfl, .inl ⟨_, rfl, _, _, rfl, rfl, .inr ⟨by decide, by decide⟩, .inl ⟨_, rfl, _, _, rfl, rfl, (by show (0 : Int) < 2147483647; decide), ?_⟩⟩⟩
        refine ⟨_, rfl, _, rfl, _, _, rfl, rfl, ⟨by show (0 : Int) < 1009; decide, by show (1009 : Int) < 1073741824; decide⟩, _, _, rfl, rfl, _, _, rfl, rfl, .inl ⟨by omega, by omega⟩, .inl ⟨_, rfl, _, _, rfl, rfl, (by show (0 : Int) < 2147483647; decide), ?_⟩⟩
        refine ⟨_, rfl, _, rfl, _, _, rfl, rfl, ⟨by show (0 : Int) < 2003; decide, by show (2003 : Int) < 1073741824; decide⟩, _, _, rfl, rfl, _, _, rfl, rfl, .inl ⟨by omega, by omega⟩, .inl ⟨_, rfl, _, _, rfl, rfl, (by show (0 : Int) < 2147483399; decide), ?_⟩⟩
        refine ⟨_, rfl, _, _, rfl, rfl, ⟨by show (0 : Int) < 16; decide, by show (16 : Int) < 1073741824; decide⟩, .inl ⟨_, rfl, _, rfl, _, _, rfl, rfl, (by show (0 : Int) < many; omega), ?_⟩⟩
        exact q _ _ (Int.emod_nonneg _ (by omega)) (Int.emod_lt_of_pos _ (by omega)) ⟨Ext.upd E3, hh, cells, _, _, _, _, upd_same, by rw [upd_ne nch]; exact ec, by omega⟩
  · have E3 : Ext h H H := Ext.refl
    refine ⟨_, rfl, h, _, rfl, dg_g e, _, _, rfl, rfl, _, rfl, ite2 (fun cg => ?_) (fun cg => ?_)⟩
    · refine ⟨_, rfl, h, _, rfl, dg_g e, .inl ⟨_, rfl, _, rfl, _, _, rfl, rfl, (by show (0 : Int) < many; omega), ?_⟩⟩
      refine ⟨_, rfl, h, _, rfl, dg_g e, _, rfl, _, _, rfl, rfl, ⟨by show (0 : Int) < many; omega, by show many < 1073741824; omega⟩, _, rfl, h, _, rfl, dp_g e, ?_⟩
      have md1 := Int.emod_nonneg g (show many ≠ 0 by omega)
      have md2 := Int.emod_lt_of_pos g (show (0 : Int) < many by omega)
      exact ⟨_, rfl, q _ _ md1 md2 ⟨Ext.upd E3, hh, cells, _, _, _, _, upd_same, by rw [upd_ne nch]; exact ec, by omega⟩⟩
    · refine ⟨_, rfl, h, _, rfl, dg_t e, _, _, rfl, rfl, _, rfl, h, _, rfl, dp_t e, ?_⟩
      refine ⟨_, rfl, h, _, rfl, dg_s upd_same, _, _, rfl, rfl, _, rfl, h, _, rfl, dg_t upd_same, _, _, rfl, rfl, .inl ⟨by decide, by decide⟩, _, _, rfl, rfl, .inl ⟨_, rfl, _, _, rfl, rfl, .inr ⟨by decide, by decide⟩, .inl ⟨_, rfl, _, _, rfl, rfl, (by show (0 : Int) < 2147483647; decide), ?_⟩⟩⟩
      refine ⟨_, rfl, _, rfl, _, _, rfl, rfl, ⟨by show (0 : Int) < 1009; decide, by show (1009 : Int) < 1073741824; decide⟩, _, _, rfl, rfl, _, _, rfl, rfl, .inl ⟨by omega, by omega⟩, .inl ⟨_, rfl, _, _, rfl, rfl, (by show (0 : Int) < 2147483647; decide), ?_⟩⟩
      refine ⟨_, rfl, _, rfl, _, _, rfl, rfl, ⟨by show (0 : Int) < 2003; decide, by show (2003 : Int) < 1073741824; decide⟩, _, _, rfl, rfl, _, _, rfl, rfl, .inl ⟨by omega, by omega⟩, .inl ⟨_, rfl, _, _, rfl, rfl, (by show (0 : Int) < 2147483399; decide), ?_⟩⟩
      refine ⟨_, rfl, _, _, rfl, rfl, ⟨by show (0 : Int) < 16; decide, by show (16 : Int) < 1073741824; decide⟩, .inl ⟨_, rfl, _, rfl, _, _, rfl, rfl, (by show (0 : Int) < many; omega), ?_⟩⟩
      exact q _ _ (Int.emod_nonneg _ (by omega)) (Int.emod_lt_of_pos _ (by omega)) ⟨Ext.upd E3, hh, cells, _, _, _, _, upd_same, by rw [upd_ne nch]; exact ec, by omega⟩
end
end K34

set_option Elab.async false
set_option linter.all false
set_option maxRecDepth 100000
set_option maxHeartbeats 4000000
/-! D10: sums, tests, numbers of boxes, drawn. -/
namespace K34
open PySem PySem.Spec PyProof.Rows L2
open He (ga ma)
theorem cat_rep {cells : Nat} {z : Int} : (List.replicate ((cells : Int)).toNat [V.int 0]).flatten ++ [V.int z] = (List.replicate cells 0 ++ [z]).map V.int := by
  rw [Int.toNat_natCast, rep_flat, new_map]
section
variable {P : Program} {w : World} {K : PySem.W.Frag} {mg : Str → Option Value} {base : Heap}
theorem ok_any (T : Facts w K mg) : OkF P w K mg base CX0 2 "_law_any" ["_law_hand_here", "_law_things"] spAny := by
  have G__law_draw := ok_draw (P := P) (base := base) T
  refine T.d__law_any.ok sc__law_any bb__law_any (fun vs H Q E h => ?_) (fun f cdv A outer s H vs Q E hr h => ?_)
  · obtain ⟨_, _, _, _, _, rfl, _⟩ := h; rfl
  obtain ⟨h, c, l, xs, Pp, rfl, hh, hl, hne, hn, hP, q⟩ := h
  have hu := hu_of hr
  have h0 := List.length_pos_iff.mpr hne
  refine ⟨_, (pss_one (ps_ret (pe_ix ix_list (pv 1) (pe_cal G__law_draw (hr.mono (by first | decide | omega)) (pa_cons (pv 0) (pa_cons (pe_callB call_len_seq (by rfl) T.b_len PySem.boot_len (pa_cons (pv 1) pa_nil)) pa_nil))) (fun _ _ => rfl)))), ?_⟩
  refine ⟨_, rfl, _, rfl, _, rfl, l, _, rfl, .inl (SqL.of hl), h, c, _, rfl, hh, by omega, by omega, fun r H' r0 r1 hx => ?_⟩
  have hlt : r.toNat < xs.length := by omega
  have e : xs[r.toNat]? = some xs[r.toNat] := List.getElem?_eq_getElem hlt
  exact ⟨_, _, _, _, rfl, rfl, SqL.of (hx.l hl), at_ix (i := r.toNat) (by omega) e, q _ H' (hP _ (List.getElem_mem hlt)) hx⟩
theorem ok_lsum (T : Facts w K mg) : OkF P w K mg base CX0 3 "_law_sum" ["_law_hand_here", "_law_cells"] spLSum := by
  have G__law_draw := ok_draw (P := P) (base := base) T
  have G__law_any := ok_any (P := P) (base := base) T
  refine T.d__law_sum.ok sc__law_sum bb__law_sum (fun vs H Q E h => ?_) (fun f cdv A outer s H vs Q E hr h => ?_)
  · obtain ⟨_, _, _, rfl, _⟩ := h; rfl
  obtain ⟨h, c, cells, rfl, hh, c1, c5, q⟩ := h
  refine ⟨_, (pss_cons (ps_set (i := 2) sc__law_sum.nd rfl (Or.inl rfl) (pe_op op_cat (pe_op op_rep (pe_lst (pa_cons pe_int pa_nil)) (pv 1)) (pe_lst (pa_cons (pe_cal G__law_any (hr.mono (by first | decide | omega)) (pa_cons (pv 0) (pa_cons (pe_lst (pa_cons pe_int (pa_cons pe_int (pa_cons pe_int (pa_cons pe_int (pa_cons (pe_un un_neg pe_int) (pa_cons pe_int (pa_cons pe_int (pa_cons (pe_un un_neg pe_int) (pa_cons (pe_op op_sub (pe_cal G__law_draw (hr.mono (by first | decide | omega)) (pa_cons (pv 0) (pa_cons pe_int pa_nil))) pe_int) pa_nil)))))))))) pa_nil))) pa_nil))))
      (pss_cons (ps_set (i := 3) sc__law_sum.nd rfl (Or.inl rfl) (pe_cal G__law_draw (hr.mono (by first | decide | omega)) (pa_cons (pv 0) (pa_cons pe_int pa_nil))))
      (pss_cons (ps_if (pt_cmpR op_gt (pv 3) pe_int (nomark _)) (pss_one (ps_asg (pe_cal G__law_any (hr.mono (by first | decide | omega)) (pa_cons (pv 0) (pa_cons (pe_lst (pa_cons pe_int (pa_cons pe_int (pa_cons pe_int (pa_cons (pe_un un_neg pe_int) (pa_cons pe_int (pa_cons pe_int (pa_cons (pe_op op_sub (pe_cal G__law_draw (hr.mono (by first | decide | omega)) (pa_cons (pv 0) (pa_cons pe_int pa_nil))) pe_int) pa_nil)))))))) pa_nil))) (pg_sub (pv 2) (pe_cal G__law_draw (hr.mono (by first | decide | omega)) (pa_cons (pv 0) (pa_cons (pv 1) pa_nil))) set_list))) pss_nil)
      (pss_cons (ps_if (pt_cmpR op_eq (pv 3) pe_int (nomark _)) (pss_one (ps_asg (pe_cal G__law_any (hr.mono (by first | decide | omega)) (pa_cons (pv 0) (pa_cons (pe_lst (pa_cons pe_int (pa_cons (pe_un un_neg pe_int) (pa_cons pe_int pa_nil)))) pa_nil))) (pg_sub (pv 2) (pe_cal G__law_draw (hr.mono (by first | decide | omega)) (pa_cons (pv 0) (pa_cons (pv 1) pa_nil))) set_list))) pss_nil)
      (pss_one (ps_ret (pe_callTy call_tuple_of (by rfl) T.b_tuple bv_tuple (pa_cons (pv 2) pa_nil)))))))), ?_⟩
  refine ⟨(by show 1 ≤ sizeLine; decide), fun l1 hl1 => ⟨_, rfl, l1, _, _, rfl, rfl, upd_same, by omega, by omega, sz (by rw [Int.toNat_natCast]; show 1 * cells ≤ _; omega), fun l2 hl2 => ?_⟩⟩
  have hx0 := ((Hx.refl hh).new (o := .lst [V.int 0]) hl1).new (o := .lst (List.replicate ((cells : Int)).toNat [V.int 0]).flatten) hl2
  refine ⟨_, rfl, _, rfl, _, rfl, _, rfl, h, c, 2001, rfl, hx0.h1, by omega, by omega, fun r H1 r0 r1 hx1 => ⟨_, _, rfl, rfl, (by show 9 ≤ sizeLine; decide), fun l3 hl3 => ?_⟩⟩
  refine ⟨h, c, l3, _, IntIn (-1000) 1000, rfl, (hx1.new hl3).h1, upd_same, by simp, by show 9 ≤ 100; omega, ?_, ?_⟩
  · exact fa ⟨_, rfl, by omega, by omega⟩ (fa ⟨_, rfl, by omega, by omega⟩ (fa ⟨_, rfl, by omega, by omega⟩ (fa ⟨_, rfl, by omega, by omega⟩ (fa ⟨_, rfl, by omega, by omega⟩ (fa ⟨_, rfl, by omega, by omega⟩ (fa ⟨_, rfl, by omega, by omega⟩ (fa ⟨_, rfl, by omega, by omega⟩ (fa ⟨_, rfl, by omega, by omega⟩ fn))))))))
  rintro v H3 ⟨z, rfl, z1, z2⟩ hx3
  have hx13 := (hx1.new (o := .lst [V.int 0, V.int 1, V.int 2, V.int 3, V.int (-1), V.int 5, V.int 1000, V.int (-1000), V.int (r - 1000)]) hl3).trans hx3
  refine ⟨(by show 1 ≤ sizeLine; decide), fun l4 hl4 => ?_⟩
  have hx4 := hx13.new (o := .lst [V.int z]) hl4
  refine ⟨l2, l4, _, _, rfl, rfl, hx4.l upd_same, upd_same, sz (by rw [Int.toNat_natCast, rep_flat, List.length_replicate]; show cells + 1 ≤ _; omega), fun l5 hl5 => ?_⟩
  rw [cat_rep]
  have hx5 := (hx0.trans hx4).new (o := .lst ((List.replicate cells 0 ++ [z]).map V.int)) hl5
  have n5 : H l5 = none := (hx0.trans hx4).free hl5
  have ok5 : OkSm cells (List.replicate cells 0 ++ [z]) := okSm_new ⟨z1, z2⟩
  have e5 : upd (upd H3 l4 (.lst [V.int z])) l5 (.lst ((List.replicate cells 0 ++ [z]).map V.int)) l5 = _ := upd_same
  generalize List.replicate cells 0 ++ [z] = s5 at hx5 ok5 e5 ⊢
  generalize upd (upd H3 l4 (.lst [V.int z])) l5 (.lst (s5.map V.int)) = H5 at hx5 e5 ⊢
  refine ⟨_, rfl, h, c, 4, rfl, hx5.h1, by omega, by omega, fun k H6 k0 k1 hx6 => ?_⟩
  have hx7 := hx5.trans hx6
  have e7 := hx6.l e5
  refine ⟨_, rfl, _, _, rfl, rfl, _, rfl, ?_⟩
  by_cases ck : 0 < k
  · refine itT (decide_eq_true ck) ?_
    refine ⟨_, rfl, _, rfl, _, rfl, h, c, 2001, rfl, hx7.h1, by omega, by omega, fun r H8 r0 r1 hx8 => ⟨_, _, rfl, rfl, (by show 7 ≤ sizeLine; decide), fun l9 hl9 => ?_⟩⟩
    have hx9 := (hx7.trans hx8).new (o := .lst [V.int 1, V.int 1, V.int 1, V.int (-1), V.int 2, V.int 1000, V.int (r - 1000)]) hl9
    refine ⟨h, c, l9, _, IntIn (-1000) 1000, rfl, hx9.h1, upd_same, by simp, by show 7 ≤ 100; omega, ?_, ?_⟩
    · exact fa ⟨_, rfl, by omega, by omega⟩ (fa ⟨_, rfl, by omega, by omega⟩ (fa ⟨_, rfl, by omega, by omega⟩ (fa ⟨_, rfl, by omega, by omega⟩ (fa ⟨_, rfl, by omega, by omega⟩ (fa ⟨_, rfl, by omega, by omega⟩ (fa ⟨_, rfl, by omega, by omega⟩ fn))))))
    rintro v Ha ⟨y, rfl, y1, y2⟩ hxa
    refine ⟨_, rfl, _, rfl, _, rfl, h, c, (cells : Int), rfl, (hx9.trans hxa).h1, by omega, by omega, fun j Hb j0 j1 hxb => ?_⟩
    have hxc := (hx9.trans hxa).trans hxb
    have ec := (((hx8.new (o := .lst [V.int 1, V.int 1, V.int 1, V.int (-1), V.int 2, V.int 1000, V.int (r - 1000)]) hl9).trans hxa).trans hxb).l e7
    refine ⟨l5, _, _, j.toNat, rfl, rfl, ec, ixN_nat (by omega) (by rw [List.length_map, ok5.1]; omega), ?_⟩
    rw [map_set]
    have hxd := hxc.mut (o := .lst ((s5.set j.toNat y).map V.int)) n5
    have okd : OkSm cells (s5.set j.toNat y) := okSm_set ok5 ⟨y1, y2⟩
    have ed : upd Hb l5 (.lst ((s5.set j.toNat y).map V.int)) l5 = _ := upd_same
    generalize s5.set j.toNat y = sd at hxd okd ed ⊢
    generalize upd Hb l5 (.lst (sd.map V.int)) = Hd at hxd ed ⊢
    refine ⟨_, rfl, rfl, _, rfl, ?_⟩
    by_cases c3 : k = 3
    · refine itT (by rw [c3]; decide) ?_
      refine ⟨_, rfl, _, rfl, (by show 3 ≤ sizeLine; decide), fun le hle => ?_⟩
      have hxe := hxd.new (o := .lst [V.int 1, V.int (-1), V.int 3]) hle
      refine ⟨h, c, le, _, IntIn (-1000) 1000, rfl, hxe.h1, upd_same, by simp, by show 3 ≤ 100; omega, ?_, ?_⟩
      · exact fa ⟨_, rfl, by omega, by omega⟩ (fa ⟨_, rfl, by omega, by omega⟩ (fa ⟨_, rfl, by omega, by omega⟩ fn))
      rintro v Hf ⟨x, rfl, x1, x2⟩ hxf
      refine ⟨_, rfl, _, rfl, _, rfl, h, c, (cells : Int), rfl, (hxe.trans hxf).h1, by omega, by omega, fun i Hg i0 i1 hxg => ?_⟩
      have hxh := (hxe.trans hxf).trans hxg
      have eg := (((Hx.refl hxd.h1).new (o := .lst [V.int 1, V.int (-1), V.int 3]) hle).trans (hxf.trans hxg)).l ed
      refine ⟨l5, _, _, i.toNat, rfl, rfl, eg, ixN_nat (by omega) (by rw [List.length_map, okd.1]; omega), ?_⟩
      rw [map_set]
      have hxi := hxh.mut (o := .lst ((sd.set i.toNat x).map V.int)) n5
      refine ⟨_, rfl, l5, _, rfl, .inl ⟨SqL.of upd_same, fun t ht => ?_⟩⟩
      exact q (.ref t) _ _ (Hx.new hxi ht) ⟨t, rfl, upd_same⟩ (okSm_set okd ⟨x1, x2⟩)
    · refine itF (decide_eq_false fun z => c3 (V.int.inj z)) ?_
      refine ⟨_, rfl, l5, _, rfl, .inl ⟨SqL.of ed, fun t ht => ?_⟩⟩
      exact q (.ref t) _ _ (Hx.new hxd ht) ⟨t, rfl, upd_same⟩ okd
  · refine itF (decide_eq_false ck) ?_
    refine ⟨_, rfl, rfl, _, rfl, itF (decide_eq_false fun z => ?_) ?_⟩
    · have := V.int.inj z; omega
    refine ⟨_, rfl, l5, _, rfl, .inl ⟨SqL.of e7, fun t ht => ?_⟩⟩
    exact q (.ref t) _ _ (Hx.new hx7 ht) ⟨t, rfl, upd_same⟩ ok5
theorem ok_ltest (T : Facts w K mg) : OkF P w K mg base CX0 4 "_law_test" ["_law_hand_here", "_law_cells"] spLTest := by
  have G__law_sum := ok_lsum (P := P) (base := base) T
  have G__law_any := ok_any (P := P) (base := base) T
  refine T.d__law_test.ok sc__law_test bb__law_test (fun vs H Q E h => ?_) (fun f cdv A outer s H vs Q E hr h => ?_)
  · obtain ⟨_, _, _, rfl, _⟩ := h; rfl
  obtain ⟨h, c, cells, rfl, hh, c1, c5, q⟩ := h
  refine ⟨_, (pss_one (ps_ret (pe_tup (pa_cons (pe_cal G__law_any (hr.mono (by first | decide | omega)) (pa_cons (pv 0) (pa_cons (pe_lst (pa_cons pe_str (pa_cons pe_str pa_nil))) pa_nil))) (pa_cons (pe_cal G__law_sum (hr.mono (by first | decide | omega)) (pa_cons (pv 0) (pa_cons (pv 1) pa_nil))) (pa_cons (pe_cal G__law_sum (hr.mono (by first | decide | omega)) (pa_cons (pv 0) (pa_cons (pv 1) pa_nil))) pa_nil)))))), ?_⟩
  refine ⟨_, rfl, (by show 2 ≤ sizeLine; decide), fun l1 hl1 => ?_⟩
  have hx1 := (Hx.refl hh).new (o := .lst [V.str "less", V.str "same"]) hl1
  refine ⟨h, c, l1, _, fun v => ∃ b, v = .str (tsS b), rfl, hx1.h1, upd_same, by simp, by show 2 ≤ 100; omega, fa ⟨true, rfl⟩ (fa ⟨false, rfl⟩ fn), ?_⟩
  rintro v H2 ⟨b, rfl⟩ hx2
  have hx3 := hx1.trans hx2
  refine ⟨_, rfl, _, rfl, h, c, cells, rfl, hx3.h1, c1, c5, fun v1 s1 H4 hx4 hs1 ok1 => ?_⟩
  refine ⟨_, rfl, _, rfl, h, c, cells, rfl, hx4.h1, c1, c5, fun v2 s2 H5 hx5 hs2 ok2 => ⟨(by show 3 ≤ sizeLine; decide), fun t ht => ?_⟩⟩
  have g : Same H5 (upd H5 t (.tup [V.str (tsS b), v1, v2])) := Same.new ht
  exact q (.ref t) ⟨b, s1, s2⟩ _ ((hx3.trans (hx4.trans hx5)).same g) ⟨t, v1, v2, rfl, upd_same, hs1.mono (Tups.trans hx5.tups (Same.tups g)), hs2.mono (Same.tups g)⟩ ⟨ok1, ok2⟩
theorem ok_lnum (T : Facts w K mg) : OkF P w K mg base CX0 2 "_law_number" ["_law_hand_here", "_law_cells", "_law_many"] spLNum := by
  have G__law_draw := ok_draw (P := P) (base := base) T
  refine T.d__law_number.ok sc__law_number bb__law_number (fun vs H Q E h => ?_) (fun f cdv A outer s H vs Q E hr h => ?_)
  · obtain ⟨_, _, _, _, rfl, _⟩ := h; rfl
  obtain ⟨h, c, cells, many, rfl, hh, c1, c5, m1, m4, q⟩ := h
  refine ⟨_, (pss_cons (ps_set (i := 3) sc__law_number.nd rfl (Or.inl rfl) (pe_op op_cat (pe_op op_rep (pe_lst (pa_cons pe_int pa_nil)) (pv 1)) (pe_lst (pa_cons (pe_ifExp (pt_cmpR op_gt (pe_cal G__law_draw (hr.mono (by first | decide | omega)) (pa_cons (pv 0) (pa_cons pe_int pa_nil))) pe_int (nomark _)) (pe_cal G__law_draw (hr.mono (by first | decide | omega)) (pa_cons (pv 0) (pa_cons (pv 2) pa_nil))) (pv 2)) pa_nil))))
      (pss_cons (ps_if (pt_cmpR op_eq (pe_cal G__law_draw (hr.mono (by first | decide | omega)) (pa_cons (pv 0) (pa_cons pe_int pa_nil))) pe_int (nomark _)) (pss_cons (ps_asg pe_int (pg_sub (pv 3) (pe_cal G__law_draw (hr.mono (by first | decide | omega)) (pa_cons (pv 0) (pa_cons (pv 1) pa_nil))) set_list))
      (pss_one (ps_asg pe_int (pg_sub (pv 3) (pv 1) set_list)))) pss_nil)
      (pss_one (ps_ret (pe_callTy call_tuple_of (by rfl) T.b_tuple bv_tuple (pa_cons (pv 3) pa_nil)))))), ?_⟩
  refine ⟨(by show 1 ≤ sizeLine; decide), fun l1 hl1 => ⟨_, rfl, l1, _, _, rfl, rfl, upd_same, by omega, by omega, sz (by rw [Int.toNat_natCast]; show 1 * cells ≤ _; omega), fun l2 hl2 => ?_⟩⟩
  have hx0 := ((Hx.refl hh).new (o := .lst [V.int 0]) hl1).new (o := .lst (List.replicate ((cells : Int)).toNat [V.int 0]).flatten) hl2
  refine ⟨_, rfl, h, c, 12, rfl, hx0.h1, by omega, by omega, fun r H1 r0 r1 hx1 => ⟨_, _, rfl, rfl, _, rfl, ?_⟩⟩
  refine ite2 (fun cr => ?_) (fun cr => ?_)
  · refine ⟨_, rfl, _, rfl, h, c, (many : Int), rfl, hx1.h1, by omega, by omega, fun z H3 z0 z1 hx3 => ?_⟩
    have hx13 := hx1.trans hx3
    refine ⟨(by show 1 ≤ sizeLine; decide), fun l4 hl4 => ?_⟩
    have hx4 := Hx.new (o := .lst [V.int z]) hx13 hl4
    refine ⟨l2, l4, _, _, rfl, rfl, hx4.l upd_same, upd_same, sz (by rw [Int.toNat_natCast, rep_flat, List.length_replicate]; show cells + 1 ≤ _; omega), fun l5 hl5 => ?_⟩
    rw [cat_rep]
    have hx5 := (hx0.trans hx4).new (o := .lst ((List.replicate cells 0 ++ [z]).map V.int)) hl5
    have n5 : H l5 = none := (hx0.trans hx4).free hl5
    have ok5 : OkSm cells (List.replicate cells 0 ++ [z]) := okSm_new ⟨by omega, by omega⟩
    refine ⟨_, rfl, h, c, 5, rfl, hx5.h1, by omega, by omega, fun k H6 k0 k1 hx6 => ⟨rfl, _, rfl, ?_⟩⟩
    have hx7 := hx5.trans hx6
    have e7 := hx6.l upd_same
    by_cases ck : k = 0
    · refine itT (by rw [ck]; decide) ⟨_, rfl, _, rfl, _, rfl, h, c, (cells : Int), rfl, hx7.h1, by omega, by omega, fun j H8 j0 j1 hx8 => ?_⟩
      have e8 := hx8.l e7
      refine ⟨l5, _, _, j.toNat, rfl, rfl, e8, ixN_nat (by omega) (by rw [List.length_map, ok5.1]; omega), ?_⟩
      rw [map_set]
      have hx9 := (hx7.trans hx8).mut (o := .lst (((List.replicate cells 0 ++ [z]).set j.toNat 1).map V.int)) n5
      have ok9 : OkSm cells ((List.replicate cells 0 ++ [z]).set j.toNat 1) := okSm_set ok5 ⟨by omega, by omega⟩
      refine ⟨_, rfl, _, rfl, l5, _, _, cells, rfl, rfl, upd_same, ixN_nat rfl (by rw [List.length_map, ok9.1]; omega), ?_⟩
      rw [map_set]
      have hxa := hx9.mut (o := .lst ((((List.replicate cells 0 ++ [z]).set j.toNat 1).set cells 0).map V.int)) n5
      refine ⟨_, rfl, l5, _, rfl, .inl ⟨SqL.of upd_same, fun t ht => ?_⟩⟩
      exact q (.ref t) _ _ (hxa.new ht) ⟨t, rfl, upd_same⟩ (okSm_set ok9 ⟨by omega, by omega⟩)
    · refine itF (decide_eq_false fun z => ck (V.int.inj z)) ?_
      refine ⟨_, rfl, l5, _, rfl, .inl ⟨SqL.of e7, fun t ht => ?_⟩⟩
      exact q (.ref t) _ _ (hx7.new ht) ⟨t, rfl, upd_same⟩ ok5
  · refine ⟨_, rfl, ?_⟩
    refine ⟨(by show 1 ≤ sizeLine; decide), fun l4 hl4 => ?_⟩
    have hx4 := Hx.new (o := .lst [V.int (many : Int)]) hx1 hl4
    refine ⟨l2, l4, _, _, rfl, rfl, hx4.l upd_same, upd_same, sz (by rw [Int.toNat_natCast, rep_flat, List.length_replicate]; show cells + 1 ≤ _; omega), fun l5 hl5 => ?_⟩
    rw [cat_rep]
    have hx5 := (hx0.trans hx4).new (o := .lst ((List.replicate cells 0 ++ [(many : Int)]).map V.int)) hl5
    have n5 : H l5 = none := (hx0.trans hx4).free hl5
    have ok5 : OkSm cells (List.replicate cells 0 ++ [(many : Int)]) := okSm_new ⟨by omega, by omega⟩
    refine ⟨_, rfl, h, c, 5, rfl, hx5.h1, by omega, by omega, fun k H6 k0 k1 hx6 => ⟨rfl, _, rfl, ?_⟩⟩
    have hx7 := hx5.trans hx6
    have e7 := hx6.l upd_same
    by_cases ck : k = 0
    · refine itT (by rw [ck]; decide) ⟨_, rfl, _, rfl, _, rfl, h, c, (cells : Int), rfl, hx7.h1, by omega, by omega, fun j H8 j0 j1 hx8 => ?_⟩
      have e8 := hx8.l e7
      refine ⟨l5, _, _, j.toNat, rfl, rfl, e8, ixN_nat (by omega) (by rw [List.length_map, ok5.1]; omega), ?_⟩
      rw [map_set]
      have hx9 := (hx7.trans hx8).mut (o := .lst (((List.replicate cells 0 ++ [(many : Int)]).set j.toNat 1).map V.int)) n5
      have ok9 : OkSm cells ((List.replicate cells 0 ++ [(many : Int)]).set j.toNat 1) := okSm_set ok5 ⟨by omega, by omega⟩
      refine ⟨_, rfl, _, rfl, l5, _, _, cells, rfl, rfl, upd_same, ixN_nat rfl (by rw [List.length_map, ok9.1]; omega), ?_⟩
      rw [map_set]
      have hxa := hx9.mut (o := .lst ((((List.replicate cells 0 ++ [(many : Int)]).set j.toNat 1).set cells 0).map V.int)) n5
      refine ⟨_, rfl, l5, _, rfl, .inl ⟨SqL.of upd_same, fun t ht => ?_⟩⟩
      exact q (.ref t) _ _ (hxa.new ht) ⟨t, rfl, upd_same⟩ (okSm_set ok9 ⟨by omega, by omega⟩)
    · refine itF (decide_eq_false fun z => ck (V.int.inj z)) ?_
      refine ⟨_, rfl, l5, _, rfl, .inl ⟨SqL.of e7, fun t ht => ?_⟩⟩
      exact q (.ref t) _ _ (hx7.new ht) ⟨t, rfl, upd_same⟩ ok5
end
end K34

set_option Elab.async false
set_option linter.all false
set_option maxRecDepth 100000
set_option maxHeartbeats 4000000
/-! D11: statements, bodies, drawn; their sizes; routines. -/
namespace K34
open PySem PySem.Spec PyProof.Rows L2
open He (ga ma)
def spLSt (n : Nat) : Sp := fun vs H Q _ => ∃ (h c : Addr) (cells rts many deep : Nat), vs = [.ref h, .int (cells : Int), .int (rts : Int), .int (many : Int), .int (deep : Int)] ∧ Hand c H h ∧ 1 ≤ cells ∧ cells ≤ 5 ∧ 1 ≤ rts ∧ rts ≤ 5 ∧ 1 ≤ many ∧ many ≤ 4 ∧ 1 ≤ deep ∧ deep + n = 5 ∧
  ∀ v s H', Hx h c H H' → StA H' s v → OkS cells rts s → dpS s ≤ n → Q v H'
def spLBd (n : Nat) : Sp := fun vs H Q _ => ∃ (h c : Addr) (cells rts many deep : Nat), vs = [.ref h, .int (cells : Int), .int (rts : Int), .int (many : Int), .int (deep : Int)] ∧ Hand c H h ∧ 1 ≤ cells ∧ cells ≤ 5 ∧ 1 ≤ rts ∧ rts ≤ 5 ∧ 1 ≤ many ∧ many ≤ 4 ∧ 1 ≤ deep ∧ deep ≤ 5 ∧ deep + n = 6 ∧
  ∀ q b H', Hx h c H H' → BdA H' q b → OkB cells rts b → dpB b < n → b.length ≤ 3 → Q (.ref q) H'
def spLSz (n : Nat) : Sp := fun vs H Q _ => ∃ (q : Addr) (b : List Stm), vs = [.ref q] ∧ BdA H q b ∧ dpB b < n ∧ ∀ H', Same H H' → Q (.int (szB b : Int)) H'
def spLRts : Sp := fun vs H Q _ => ∃ (h c : Addr) (cells many : Nat), vs = [.ref h, .int (cells : Int), .int (many : Int)] ∧ Hand c H h ∧ 1 ≤ cells ∧ cells ≤ 5 ∧ 1 ≤ many ∧ many ≤ 4 ∧ ∀ p rs H', Hx h c H H' → RtsA H' p rs → OkR cells rs → Q (.ref p) H'
theorem okB_nil {cells rts : Nat} : OkB cells rts [] := by rw [OkB]; exact trivial
theorem okB_cons {cells rts : Nat} {s : Stm} {b : List Stm} (h : OkS cells rts s) (k : OkB cells rts b) : OkB cells rts (s :: b) := by rw [OkB]; exact ⟨h, k⟩
theorem okB_snoc {cells rts : Nat} {s : Stm} {b : List Stm} (h : OkB cells rts b) (k : OkS cells rts s) : OkB cells rts (b ++ [s]) := OkB_of fun x m => by
  rcases List.mem_append.mp m with m | m
  · exact OkB_mem h x m
  · have : x = s := by simpa using m
    rw [this]; exact k
theorem dpB_snoc {s : Stm} {b : List Stm} : dpB (b ++ [s]) = max (dpB b) (dpS s) := by rw [dpB_append, dpB, dpB, Nat.max_zero]
theorem szB_snoc {s : Stm} {b : List Stm} : szB (b ++ [s]) = szB b + szS s := by rw [szB_append, szB, szB, Nat.add_zero]
section
variable {P : Program} {w : World} {K : PySem.W.Frag} {mg : Str → Option Value} {base : Heap}
theorem ok_lcounting (T : Facts w K mg) (n : Nat) (G__law_body : OkF P w K mg base CX0 (5 + 3 * n) "_law_body" ["_law_hand_here", "_law_cells", "_law_routines_here", "_law_many", "_law_deep_here"] (spLBd n)) :
    OkF P w K mg base CX0 (6 + 3 * n) "_law_counting" ["_law_hand_here", "_law_cells", "_law_routines_here", "_law_many", "_law_deep_here"] (fun vs H Q E => n ≥ 1 ∧ spLSt n vs H Q E) := by
  have G__law_draw := ok_draw (P := P) (base := base) T
  have e6 : 6 + 3 * n = (5 + 3 * n) + 1 := by omega
  rw [e6]
  refine T.d__law_counting.ok sc__law_counting bb__law_counting (fun vs H Q E h => ?_) (fun f cdv A outer s H vs Q E hr h => ?_)
  · obtain ⟨_, _, _, _, _, _, _, rfl, _⟩ := h; rfl
  obtain ⟨hn, h, c, cells, rts, many, deep, rfl, hh, c1, c5, r1, r5, m1, m4, d1, dn, q⟩ := h
  refine ⟨_, (pss_cons (ps_set (i := 5) sc__law_counting.nd rfl (Or.inr rfl) (pe_cal G__law_draw (hr.mono (by first | decide | omega)) (pa_cons (pv 0) (pa_cons (pv 1) pa_nil))))
      (pss_cons (ps_set (i := 6) sc__law_counting.nd rfl (Or.inl rfl) (pe_callTy call_tuple_of (by rfl) T.b_tuple bv_tuple (pa_cons (pe_lc (own := [("_law_k", 8)]) (g := (gName 8)) (tt := tYes) rfl sc__law_counting.nd (pi_range1 (by rfl) T.b_range (pa_cons (pv 1) pa_nil)) (blkOk_by (N := N__law_counting) (sc := defScope s__law_counting) (by decide +kernel)) (fun _ _ _ _ _ => (pg_name (i := 8) sc__law_counting.nd rfl (Or.inl rfl))) (fun _ _ _ _ _ => pts_nil) (fun _ _ _ _ _ => (pe_callTy call_int1 (by rfl) T.b_int bv_int (pa_cons (pe_cmpR op_eq (pv 8) (pv 5) (nomark _)) pa_nil)))) pa_nil)))
      (pss_cons (ps_set (i := 7) sc__law_counting.nd rfl (Or.inl rfl) (pe_cal G__law_body (hr.mono (by first | decide | omega)) (pa_cons (pv 0) (pa_cons (pv 1) (pa_cons (pv 2) (pa_cons (pv 3) (pa_cons (pe_op op_add (pv 4) pe_int) pa_nil)))))))
      (pss_one (ps_ret (pe_tup (pa_cons pe_str (pa_cons (pe_tup (pa_cons pe_str (pa_cons (pe_op op_catU (pv 6) (pe_tup (pa_cons pe_int pa_nil))) (pa_cons (pe_op op_catU (pe_op op_repU (pe_tup (pa_cons pe_int pa_nil)) (pv 1)) (pe_tup (pa_cons (pe_cal G__law_draw (hr.mono (by first | decide | omega)) (pa_cons (pv 0) (pa_cons pe_int pa_nil))) pa_nil))) pa_nil)))) (pa_cons (pe_op op_catU (pv 7) (pe_tup (pa_cons (pe_tup (pa_cons pe_str (pa_cons (pv 5) (pa_cons (pe_op op_catU (pv 6) (pe_tup (pa_cons pe_int pa_nil))) pa_nil)))) pa_nil))) pa_nil))))))))), ?_⟩
  refine ⟨_, rfl, _, rfl, h, c, (cells : Int), rfl, hh, by omega, by omega, fun cell H1 k0 k1 hx1 => ?_⟩
  refine ⟨_, rfl, _, rfl, by omega, by omega, fun D hD => ?_⟩
  have nD := hx1.free hD
  refine lc_range (n := ((cells : Int)).toNat) (fun i H' => Hx h c H H' ∧ ∃ l : List Int, H' D = some (.lst (l.map V.int)) ∧ l.length = i ∧ ∀ z ∈ l, 0 ≤ z ∧ z ≤ 1) ⟨hx1.new hD, [], upd_same, rfl, fun z m => by cases m⟩ ?_ ?_
  · rintro i H' hi ⟨hx, l, e, hl, hz⟩
    have hi : i < ((cells : Int)).toNat := hi
    refine ⟨rfl, _, rfl, _, rfl, rfl, .inr ⟨_, rfl, _, e, szlt (by rw [List.length_map]; omega), hx.mut nD, l ++ [if decide (V.int (0 + (i : Int)) = V.int cell) = true then 1 else 0], ?_, ?_, ?_⟩⟩
    · rw [upd_same, List.map_append]; rfl
    · rw [List.length_append, hl]; rfl
    · intro z m
      rcases List.mem_append.mp m with m | m
      · exact hz z m
      · have : z = if decide (V.int (0 + (i : Int)) = V.int cell) = true then 1 else 0 := by simpa using m
        rw [this]
        split <;> omega
  rintro H2 ⟨hx2, l, e2, hll, hz⟩
  rw [Int.toNat_natCast] at hll
  refine ⟨D, _, rfl, .inl ⟨SqL.of e2, fun po hpo => ?_⟩⟩
  have hx3 := hx2.new (o := .tup (l.map V.int)) hpo
  refine ⟨_, rfl, _, rfl, _, rfl, _, rfl, _, rfl, _, _, rfl, rfl, h, c, cells, rts, many, deep + 1, rfl, hx3.h1, c1, c5, r1, r5, m1, m4, by omega, by omega, by omega, fun pb b H4 hx4 hb okb hdb hbl => ?_⟩
  have e4 : H4 po = some (.tup (l.map V.int)) := hx4.t upd_same
  -- the test
  refine ⟨_, rfl, (by show 1 ≤ sizeLine; decide), fun t1 ht1 => ⟨po, t1, _, _, rfl, rfl, newAt e4 ht1, upd_same, by rw [List.length_map]; show l.length + 1 ≤ _; omega, fun p2 H5 g5 e5 => ?_⟩⟩
  have g45 : Same H4 H5 := Same.trans (Same.new ht1) g5
  refine ⟨(by show 1 ≤ sizeLine; decide), fun t3 ht3 => ⟨_, rfl, t3, _, .int 0, rfl, rfl, upd_same, by omega, by omega, fun p4 H6 g6 e6 => ?_⟩⟩
  have g56 : Same H5 H6 := Same.trans (Same.new ht3) g6
  have hx6 := (hx3.trans hx4).same (g45.trans g56)
  refine ⟨_, rfl, h, c, 8, rfl, hx6.h1, by omega, by omega, fun d H7 d0 d1' hx7 => ⟨(by show 1 ≤ sizeLine; decide), fun t6 ht6 => ⟨p4, t6, _, _, rfl, rfl, newAt (hx7.t e6) ht6, upd_same, by rw [List.length_replicate, Int.toNat_natCast]; show cells + 1 ≤ _; omega, fun p7 H8 g8 e8 => ?_⟩⟩⟩
  have g78 : Same H7 H8 := Same.trans (Same.new ht6) g8
  refine ⟨(by show 3 ≤ sizeLine; decide), fun t8 ht8 => ?_⟩
  have g89 : Same H8 (upd H8 t8 (.tup [V.str "less", V.ref p2, V.ref p7])) := Same.new ht8
  have g79 := g78.trans g89
  have k49 : Tups H4 (upd H8 t8 (.tup [V.str "less", V.ref p2, V.ref p7])) := Tups.trans (Same.tups (g45.trans g56)) (Tups.trans hx7.tups (Same.tups g79))
  -- the body
  refine ⟨_, rfl, _, rfl, _, rfl, (by show 1 ≤ sizeLine; decide), fun t9 ht9 => ⟨po, t9, _, _, rfl, rfl, newAt (k49 _ _ e4) ht9, upd_same, by rw [List.length_map]; show l.length + 1 ≤ _; omega, fun p10 H10 g10 e10 => ?_⟩⟩
  have gA : Same (upd H8 t8 (.tup [V.str "less", V.ref p2, V.ref p7])) H10 := Same.trans (Same.new ht9) g10
  refine ⟨(by show 3 ≤ sizeLine; decide), fun t11 ht11 => ⟨(by show 1 ≤ sizeLine; decide), fun t12 ht12 => ?_⟩⟩
  have gB := Same.then_ (Same.new (o := .tup [V.str "set", V.int cell, V.ref p10]) ht11) (o := .tup [V.ref t11]) ht12
  obtain ⟨bvs, hpb, hbv⟩ := hb.all
  have bl := hbv.len
  have kB := Tups.trans k49 (Same.tups (gA.trans gB))
  refine ⟨pb, t12, _, _, rfl, rfl, kB _ _ hpb, upd_same, by rw [bl]; show b.length + 1 ≤ _; omega, fun p13 H13 g13 e13 => ⟨(by show 3 ≤ sizeLine; decide), fun t14 ht14 => ?_⟩⟩
  have gC : Same H13 (upd H13 t14 (.tup [V.str "while", V.ref t8, V.ref p13])) := Same.new ht14
  have gD := g13.trans gC
  have kF := Tups.trans kB (Same.tups gD)
  have k8F := Same.tups (gA.trans (gB.trans gD))
  have hs : 0 ≤ cell ∧ cell < (cells : Int) := ⟨k0, k1⟩
  have okl : ∀ {z : Int}, 0 ≤ z → z ≤ 1000 → OkSm cells (l ++ [z]) := fun {z} z0 z1 => ⟨by rw [List.length_append, hll]; rfl, fun y m => by
    rcases List.mem_append.mp m with m | m
    · have := hz y m; omega
    · have : y = z := by simpa using m
      rw [this]; omega⟩
  have okd : OkSm cells (List.replicate cells 0 ++ [d]) := okSm_new ⟨by omega, by omega⟩
  have ecell : cell = ((cell.toNat : Nat) : Int) := by omega
  refine q (.ref t14) (.whl ⟨true, l ++ [0], List.replicate cells 0 ++ [d]⟩ (b ++ [.set cell.toNat (l ++ [1])])) _ (((hx3.trans hx4).same (g45.trans g56)).trans ((hx7.same g79).same (gA.trans (gB.trans gD)))) ?_ ?_ ?_
  · rw [StA]
    refine ⟨t14, .ref t8, p13, rfl, upd_same, ⟨t8, .ref p2, .ref p7, rfl, k8F _ _ upd_same, ⟨p2, rfl, ?_⟩, ⟨p7, rfl, ?_⟩⟩, bvs ++ [.ref t11], gC.at_ e13, bdsA_iff.mpr ?_⟩
    · have := k8F _ _ (g89.at_ (g78.at_ (hx7.t (g56.at_ e5))))
      rw [this, List.map_append]; rfl
    · have := k8F _ _ (g89.at_ e8)
      rw [this, List.map_append, List.map_replicate, Int.toNat_natCast]; rfl
    · refine All2.snoc (hbv.mono fun _ _ r => StA.mono kF _ _ r) ?_
      rw [StA]
      refine ⟨t11, .ref p10, rfl, gD.at_ (newAt (by rw [← ecell]; exact upd_same) ht12), p10, rfl, ?_⟩
      have := Same.tups (gB.trans gD) _ _ e10
      rw [this, List.map_append]; rfl
  · rw [OkS]
    refine ⟨⟨okl (by omega) (by omega), okd⟩, okB_snoc okb ?_⟩
    rw [OkS]
    exact ⟨by omega, okl (by omega) (by omega)⟩
  · rw [dpS, dpB_snoc, dpS, Nat.max_zero]
    omega
theorem ok_lstatement (T : Facts w K mg) (n : Nat) (G__law_body : OkF P w K mg base CX0 (5 + 3 * n) "_law_body" ["_law_hand_here", "_law_cells", "_law_routines_here", "_law_many", "_law_deep_here"] (spLBd n)) :
    OkF P w K mg base CX0 (7 + 3 * n) "_law_statement" ["_law_hand_here", "_law_cells", "_law_routines_here", "_law_many", "_law_deep_here"] (spLSt n) := by
  have G__law_draw := ok_draw (P := P) (base := base) T
  have G__law_any := ok_any (P := P) (base := base) T
  have G__law_sum := ok_lsum (P := P) (base := base) T
  have G__law_test := ok_ltest (P := P) (base := base) T
  have G__law_number := ok_lnum (P := P) (base := base) T
  have G__law_counting := ok_lcounting T n G__law_body
  have e6 : 7 + 3 * n = (6 + 3 * n) + 1 := by omega
  rw [e6]
  refine T.d__law_statement.ok sc__law_statement bb__law_statement (fun vs H Q E h => ?_) (fun f cdv A outer s H vs Q E hr h => ?_)
  · obtain ⟨_, _, _, _, _, _, rfl, _⟩ := h; rfl
  obtain ⟨h, c, cells, rts, many, deep, rfl, hh, c1, c5, r1, r5, m1, m4, d1, dn, q⟩ := h
  refine ⟨_, (pss_cons (ps_set (i := 5) sc__law_statement.nd rfl (Or.inl rfl) (pe_cal G__law_draw (hr.mono (by first | decide | omega)) (pa_cons (pv 0) (pa_cons pe_int pa_nil))))
      (pss_cons (ps_if (PW.pt (pw_or (pt_cmpR op_lt (pv 5) pe_int (nomark _)) (pw_or1 (PW.pt (pw_and (pt_cmpR op_gt (pv 4) pe_int (nomark _)) (pw_and1 (pt_cmpR op_gt (pv 5) pe_int (nomark _)))))))) (pss_one (ps_ret (pe_tup (pa_cons pe_str (pa_cons (pe_cal G__law_draw (hr.mono (by first | decide | omega)) (pa_cons (pv 0) (pa_cons (pv 1) pa_nil))) (pa_cons (pe_cal G__law_sum (hr.mono (by first | decide | omega)) (pa_cons (pv 0) (pa_cons (pv 1) pa_nil))) pa_nil)))))) pss_nil)
      (pss_cons (ps_if (pt_cmpR op_lt (pv 5) pe_int (nomark _)) (pss_one (ps_ret (pe_tup (pa_cons pe_str (pa_cons (pe_cal G__law_number (hr.mono (by first | decide | omega)) (pa_cons (pv 0) (pa_cons (pv 1) (pa_cons (pv 3) pa_nil)))) (pa_cons (pe_cal G__law_sum (hr.mono (by first | decide | omega)) (pa_cons (pv 0) (pa_cons (pv 1) pa_nil))) (pa_cons (pe_cal G__law_sum (hr.mono (by first | decide | omega)) (pa_cons (pv 0) (pa_cons (pv 1) pa_nil))) pa_nil))))))) pss_nil)
      (pss_cons (ps_if (pt_cmpR op_lt (pv 5) pe_int (nomark _)) (pss_cons (ps_set (i := 6) sc__law_statement.nd rfl (Or.inl rfl) (pe_cal G__law_any (hr.mono (by first | decide | omega)) (pa_cons (pv 0) (pa_cons (pe_lst (pa_cons pe_str (pa_cons pe_str (pa_cons pe_str (pa_cons pe_str (pa_cons pe_str (pa_cons pe_str pa_nil))))))) pa_nil))))
      (pss_one (ps_ret (pe_tup (pa_cons pe_str (pa_cons (pe_cal G__law_draw (hr.mono (by first | decide | omega)) (pa_cons (pv 0) (pa_cons (pv 1) pa_nil))) (pa_cons (pv 6) (pa_cons (pe_cal G__law_number (hr.mono (by first | decide | omega)) (pa_cons (pv 0) (pa_cons (pv 1) (pa_cons (pv 3) pa_nil)))) pa_nil)))))))) pss_nil)
      (pss_cons (ps_if (pt_cmpR op_lt (pv 5) pe_int (nomark _)) (pss_one (ps_ret (pe_tup (pa_cons pe_str (pa_cons (pe_cal G__law_draw (hr.mono (by first | decide | omega)) (pa_cons (pv 0) (pa_cons (pv 2) pa_nil))) pa_nil))))) pss_nil)
      (pss_cons (ps_if (pt_cmpR op_eq (pv 5) pe_int (nomark _)) (pss_cons (ps_set (i := 7) sc__law_statement.nd rfl (Or.inl rfl) (pe_cal G__law_body (hr.mono (by first | decide | omega)) (pa_cons (pv 0) (pa_cons (pv 1) (pa_cons (pv 2) (pa_cons (pv 3) (pa_cons (pe_op op_add (pv 4) pe_int) pa_nil)))))))
      (pss_one (ps_ret (pe_tup (pa_cons pe_str (pa_cons (pe_cal G__law_test (hr.mono (by first | decide | omega)) (pa_cons (pv 0) (pa_cons (pv 1) pa_nil))) (pa_cons (pe_cal G__law_body (hr.mono (by first | decide | omega)) (pa_cons (pv 0) (pa_cons (pv 1) (pa_cons (pv 2) (pa_cons (pv 3) (pa_cons (pe_op op_add (pv 4) pe_int) pa_nil)))))) (pa_cons (pv 7) pa_nil)))))))) pss_nil)
      (pss_cons (ps_if (pt_cmpR op_eq (pv 5) pe_int (nomark _)) (pss_one (ps_ret (pe_tup (pa_cons pe_str (pa_cons (pe_cal G__law_test (hr.mono (by first | decide | omega)) (pa_cons (pv 0) (pa_cons (pv 1) pa_nil))) (pa_cons (pe_cal G__law_body (hr.mono (by first | decide | omega)) (pa_cons (pv 0) (pa_cons (pv 1) (pa_cons (pv 2) (pa_cons (pv 3) (pa_cons (pe_op op_add (pv 4) pe_int) pa_nil)))))) pa_nil)))))) pss_nil)
      (pss_one (ps_ret (pe_cal G__law_counting (hr.mono (by first | decide | omega)) (pa_cons (pv 0) (pa_cons (pv 1) (pa_cons (pv 2) (pa_cons (pv 3) (pa_cons (pv 4) pa_nil))))))))))))))), ?_⟩
  refine ⟨_, rfl, h, c, 12, rfl, hh, by omega, by omega, fun k H1 k0 k1 hx1 => ?_⟩
  refine ⟨_, rfl, _, _, rfl, rfl, _, rfl, ?_⟩
  by_cases c3 : k < 3
  · refine itT (decide_eq_true c3) (itT rfl ?_)
    refine ⟨_, rfl, _, rfl, h, c, (cells : Int), rfl, hx1.h1, by omega, by omega, fun z H2 z0 z1 hx2 => ?_⟩
    refine ⟨_, rfl, _, rfl, h, c, cells, rfl, hx2.h1, c1, c5, fun v s1 H3 hx3 hs1 ok1 => ⟨(by show 3 ≤ sizeLine; decide), fun t ht => ?_⟩⟩
    have ez : z = ((z.toNat : Nat) : Int) := by omega
    refine q (.ref t) (.set z.toNat s1) _ ((hx1.trans (hx2.trans hx3)).new ht) ?_ ?_ (by rw [dpS]; omega)
    · rw [StA]; exact ⟨t, v, rfl, by rw [← ez]; exact upd_same, hs1.mono (Same.tups (Same.new ht))⟩
    · rw [OkS]; exact ⟨by omega, ok1⟩
  refine itF (decide_eq_false c3) ⟨_, rfl, _, _, rfl, rfl, _, rfl, ?_⟩
  have key : 4 < deep ∧ 8 < k ∨ ¬ (4 < deep ∧ 8 < k) := Classical.em _
  rcases key with ⟨cd, ck⟩ | key
  · refine itT (decide_eq_true (by omega)) ⟨_, rfl, _, _, rfl, rfl, _, rfl, itT (decide_eq_true (by omega)) ?_⟩
    refine ⟨_, rfl, _, rfl, h, c, (cells : Int), rfl, hx1.h1, by omega, by omega, fun z H2 z0 z1 hx2 => ?_⟩
    refine ⟨_, rfl, _, rfl, h, c, cells, rfl, hx2.h1, c1, c5, fun v s1 H3 hx3 hs1 ok1 => ⟨(by show 3 ≤ sizeLine; decide), fun t ht => ?_⟩⟩
    have ez : z = ((z.toNat : Nat) : Int) := by omega
    refine q (.ref t) (.set z.toNat s1) _ ((hx1.trans (hx2.trans hx3)).new ht) ?_ ?_ (by rw [dpS]; omega)
    · rw [StA]; exact ⟨t, v, rfl, by rw [← ez]; exact upd_same, hs1.mono (Same.tups (Same.new ht))⟩
    · rw [OkS]; exact ⟨by omega, ok1⟩
  by_cases cd : 4 < deep
  · have ck : ¬ 8 < k := fun z => key ⟨cd, z⟩
    refine itT (decide_eq_true (by omega)) ⟨_, rfl, _, _, rfl, rfl, _, rfl, itF (decide_eq_false (by omega)) ?_⟩
    refine ⟨_, rfl, _, _, rfl, rfl, _, rfl, ?_⟩
    by_cases c5' : k < 5
    · refine itT (decide_eq_true c5') ?_
      refine ⟨_, rfl, _, rfl, _, rfl, h, c, cells, many, rfl, hx1.h1, c1, c5, m1, m4, fun v1 s1 H2 hx2 hs1 ok1 => ?_⟩
      refine ⟨_, rfl, _, rfl, h, c, cells, rfl, hx2.h1, c1, c5, fun v2 s2 H3 hx3 hs2 ok2 => ?_⟩
      refine ⟨_, rfl, _, rfl, h, c, cells, rfl, hx3.h1, c1, c5, fun v3 s3 H4 hx4 hs3 ok3 => ⟨(by show 4 ≤ sizeLine; decide), fun t ht => ?_⟩⟩
      have g := Same.tups (Same.new (o := .tup [V.str "put", v1, v2, v3]) ht)
      refine q (.ref t) (.put s1 s2 s3) _ ((hx1.trans (hx2.trans (hx3.trans hx4))).new ht) ?_ ?_ (by rw [dpS]; omega)
      · rw [StA]; exact ⟨t, v1, v2, v3, rfl, upd_same, hs1.mono (Tups.trans (hx3.trans hx4).tups g), hs2.mono (Tups.trans hx4.tups g), hs3.mono g⟩
      · rw [OkS]; exact ⟨ok1, ok2, ok3⟩
    refine itF (decide_eq_false c5') ⟨_, rfl, _, _, rfl, rfl, _, rfl, ?_⟩
    by_cases c7 : k < 7
    · refine itT (decide_eq_true c7) ?_
      refine ⟨_, rfl, (by show 6 ≤ sizeLine; decide), fun l1 hl1 => ⟨h, c, l1, _, fun v => ∃ wd, v = .str (wdS wd), rfl, (hx1.new hl1).h1, upd_same, by simp, by show 6 ≤ 100; omega, fa ⟨.width, rfl⟩ (fa ⟨.height, rfl⟩ (fa ⟨.width, rfl⟩ (fa ⟨.height, rfl⟩ (fa ⟨.left, rfl⟩ (fa ⟨.top, rfl⟩ fn))))), ?_⟩⟩
      rintro v H2 ⟨wd, rfl⟩ hx2
      have hx12 := (hx1.new (o := .lst [V.str "width", V.str "height", V.str "width", V.str "height", V.str "left", V.str "top"]) hl1).trans hx2
      refine ⟨_, rfl, _, rfl, h, c, (cells : Int), rfl, hx12.h1, by omega, by omega, fun z H3 z0 z1 hx3 => ?_⟩
      refine ⟨_, rfl, _, rfl, _, rfl, _, rfl, h, c, cells, many, rfl, hx3.h1, c1, c5, m1, m4, fun v1 s1 H4 hx4 hs1 ok1 => ⟨(by show 4 ≤ sizeLine; decide), fun t ht => ?_⟩⟩
      have ez : z = ((z.toNat : Nat) : Int) := by omega
      refine q (.ref t) (.ask z.toNat wd s1) _ ((hx12.trans (hx3.trans hx4)).new ht) ?_ ?_ (by rw [dpS]; omega)
      · rw [StA]; exact ⟨t, v1, rfl, by rw [← ez]; exact upd_same, hs1.mono (Same.tups (Same.new ht))⟩
      · rw [OkS]; exact ⟨by omega, ok1⟩
    refine itF (decide_eq_false c7) ⟨_, rfl, _, _, rfl, rfl, _, rfl, ?_⟩
    by_cases c9 : k < 9
    · refine itT (decide_eq_true c9) ?_
      refine ⟨_, rfl, _, rfl, h, c, (rts : Int), rfl, hx1.h1, by omega, by omega, fun z H2 z0 z1 hx2 => ⟨(by show 2 ≤ sizeLine; decide), fun t ht => ?_⟩⟩
      have ez : z = ((z.toNat : Nat) : Int) := by omega
      refine q (.ref t) (.call z.toNat) _ ((hx1.trans hx2).new ht) ?_ ?_ (by rw [dpS]; omega)
      · rw [StA]; exact ⟨t, rfl, by rw [← ez]; exact upd_same⟩
      · rw [OkS]; omega
    have hd4 : deep ≤ 4 := by omega
    refine itF (decide_eq_false c9) ⟨_, rfl, rfl, _, rfl, ?_⟩
    by_cases e9 : k = 9
    · refine itT (by rw [e9]; decide) ?_
      refine ⟨_, rfl, _, rfl, _, rfl, _, rfl, _, rfl, _, _, rfl, rfl, h, c, cells, rts, many, deep + 1, rfl, hx1.h1, c1, c5, r1, r5, m1, m4, by omega, by omega, by omega, fun pn bn H2 hx2 hbn okn hdn hln => ?_⟩
      refine ⟨_, rfl, _, rfl, h, c, cells, rfl, hx2.h1, c1, c5, fun v1 t1 H3 hx3 ht1 okt => ?_⟩
      refine ⟨_, rfl, _, rfl, _, rfl, _, rfl, _, rfl, _, _, rfl, rfl, h, c, cells, rts, many, deep + 1, rfl, hx3.h1, c1, c5, r1, r5, m1, m4, by omega, by omega, by omega, fun py by_ H4 hx4 hby oky hdy hly => ?_⟩
      refine ⟨_, rfl, (by show 4 ≤ sizeLine; decide), fun t ht => ?_⟩
      have g := Same.tups (Same.new (o := .tup [V.str "if", v1, V.ref py, V.ref pn]) ht)
      refine q (.ref t) (.ite t1 by_ bn) _ ((hx1.trans (hx2.trans (hx3.trans hx4))).new ht) ?_ ?_ (by rw [dpS]; omega)
      · rw [StA]; exact ⟨t, v1, py, pn, rfl, upd_same, ht1.mono (Tups.trans hx4.tups g), hby.mono g, hbn.mono (Tups.trans (hx3.trans hx4).tups g)⟩
      · rw [OkS]; exact ⟨okt, oky, okn⟩
    refine itF (decide_eq_false fun z => e9 (V.int.inj z)) ⟨_, rfl, rfl, _, rfl, ?_⟩
    by_cases e10 : k = 10
    · refine itT (by rw [e10]; decide) ?_
      refine ⟨_, rfl, _, rfl, h, c, cells, rfl, hx1.h1, c1, c5, fun v1 t1 H3 hx3 ht1 okt => ?_⟩
      refine ⟨_, rfl, _, rfl, _, rfl, _, rfl, _, rfl, _, _, rfl, rfl, h, c, cells, rts, many, deep + 1, rfl, hx3.h1, c1, c5, r1, r5, m1, m4, by omega, by omega, by omega, fun py by_ H4 hx4 hby oky hdy hly => ?_⟩
      refine ⟨(by show 3 ≤ sizeLine; decide), fun t ht => ?_⟩
      have g := Same.tups (Same.new (o := .tup [V.str "while", v1, V.ref py]) ht)
      refine q (.ref t) (.whl t1 by_) _ ((hx1.trans (hx3.trans hx4)).new ht) ?_ ?_ (by rw [dpS]; omega)
      · rw [StA]; exact ⟨t, v1, py, rfl, upd_same, ht1.mono (Tups.trans hx4.tups g), hby.mono g⟩
      · rw [OkS]; exact ⟨okt, oky⟩
    refine itF (decide_eq_false fun z => e10 (V.int.inj z)) ?_
    refine ⟨_, rfl, _, rfl, _, rfl, _, rfl, _, rfl, by omega, h, c, cells, rts, many, deep, rfl, hx1.h1, c1, c5, r1, r5, m1, m4, d1, dn, fun v s H2 hx2 hs ok hd => q v s H2 (hx1.trans hx2) hs ok hd⟩
  · refine itF (decide_eq_false (by omega)) ?_
    refine ⟨_, rfl, _, _, rfl, rfl, _, rfl, ?_⟩
    by_cases c5' : k < 5
    · refine itT (decide_eq_true c5') ?_
      refine ⟨_, rfl, _, rfl, _, rfl, h, c, cells, many, rfl, hx1.h1, c1, c5, m1, m4, fun v1 s1 H2 hx2 hs1 ok1 => ?_⟩
      refine ⟨_, rfl, _, rfl, h, c, cells, rfl, hx2.h1, c1, c5, fun v2 s2 H3 hx3 hs2 ok2 => ?_⟩
      refine ⟨_, rfl, _, rfl, h, c, cells, rfl, hx3.h1, c1, c5, fun v3 s3 H4 hx4 hs3 ok3 => ⟨(by show 4 ≤ sizeLine; decide), fun t ht => ?_⟩⟩
      have g := Same.tups (Same.new (o := .tup [V.str "put", v1, v2, v3]) ht)
      refine q (.ref t) (.put s1 s2 s3) _ ((hx1.trans (hx2.trans (hx3.trans hx4))).new ht) ?_ ?_ (by rw [dpS]; omega)
      · rw [StA]; exact ⟨t, v1, v2, v3, rfl, upd_same, hs1.mono (Tups.trans (hx3.trans hx4).tups g), hs2.mono (Tups.trans hx4.tups g), hs3.mono g⟩
      · rw [OkS]; exact ⟨ok1, ok2, ok3⟩
    refine itF (decide_eq_false c5') ⟨_, rfl, _, _, rfl, rfl, _, rfl, ?_⟩
    by_cases c7 : k < 7
    · refine itT (decide_eq_true c7) ?_
      refine ⟨_, rfl, (by show 6 ≤ sizeLine; decide), fun l1 hl1 => ⟨h, c, l1, _, fun v => ∃ wd, v = .str (wdS wd), rfl, (hx1.new hl1).h1, upd_same, by simp, by show 6 ≤ 100; omega, fa ⟨.width, rfl⟩ (fa ⟨.height, rfl⟩ (fa ⟨.width, rfl⟩ (fa ⟨.height, rfl⟩ (fa ⟨.left, rfl⟩ (fa ⟨.top, rfl⟩ fn))))), ?_⟩⟩
      rintro v H2 ⟨wd, rfl⟩ hx2
      have hx12 := (hx1.new (o := .lst [V.str "width", V.str "height", V.str "width", V.str "height", V.str "left", V.str "top"]) hl1).trans hx2
      refine ⟨_, rfl, _, rfl, h, c, (cells : Int), rfl, hx12.h1, by omega, by omega, fun z H3 z0 z1 hx3 => ?_⟩
      refine ⟨_, rfl, _, rfl, _, rfl, _, rfl, h, c, cells, many, rfl, hx3.h1, c1, c5, m1, m4, fun v1 s1 H4 hx4 hs1 ok1 => ⟨(by show 4 ≤ sizeLine; decide), fun t ht => ?_⟩⟩
      have ez : z = ((z.toNat : Nat) : Int) := by omega
      refine q (.ref t) (.ask z.toNat wd s1) _ ((hx12.trans (hx3.trans hx4)).new ht) ?_ ?_ (by rw [dpS]; omega)
      · rw [StA]; exact ⟨t, v1, rfl, by rw [← ez]; exact upd_same, hs1.mono (Same.tups (Same.new ht))⟩
      · rw [OkS]; exact ⟨by omega, ok1⟩
    refine itF (decide_eq_false c7) ⟨_, rfl, _, _, rfl, rfl, _, rfl, ?_⟩
    by_cases c9 : k < 9
    · refine itT (decide_eq_true c9) ?_
      refine ⟨_, rfl, _, rfl, h, c, (rts : Int), rfl, hx1.h1, by omega, by omega, fun z H2 z0 z1 hx2 => ⟨(by show 2 ≤ sizeLine; decide), fun t ht => ?_⟩⟩
      have ez : z = ((z.toNat : Nat) : Int) := by omega
      refine q (.ref t) (.call z.toNat) _ ((hx1.trans hx2).new ht) ?_ ?_ (by rw [dpS]; omega)
      · rw [StA]; exact ⟨t, rfl, by rw [← ez]; exact upd_same⟩
      · rw [OkS]; omega
    have hd4 : deep ≤ 4 := by omega
    refine itF (decide_eq_false c9) ⟨_, rfl, rfl, _, rfl, ?_⟩
    by_cases e9 : k = 9
    · refine itT (by rw [e9]; decide) ?_
      refine ⟨_, rfl, _, rfl, _, rfl, _, rfl, _, rfl, _, _, rfl, rfl, h, c, cells, rts, many, deep + 1, rfl, hx1.h1, c1, c5, r1, r5, m1, m4, by omega, by omega, by omega, fun pn bn H2 hx2 hbn okn hdn hln => ?_⟩
      refine ⟨_, rfl, _, rfl, h, c, cells, rfl, hx2.h1, c1, c5, fun v1 t1 H3 hx3 ht1 okt => ?_⟩
      refine ⟨_, rfl, _, rfl, _, rfl, _, rfl, _, rfl, _, _, rfl, rfl, h, c, cells, rts, many, deep + 1, rfl, hx3.h1, c1, c5, r1, r5, m1, m4, by omega, by omega, by omega, fun py by_ H4 hx4 hby oky hdy hly => ?_⟩
      refine ⟨_, rfl, (by show 4 ≤ sizeLine; decide), fun t ht => ?_⟩
      have g := Same.tups (Same.new (o := .tup [V.str "if", v1, V.ref py, V.ref pn]) ht)
      refine q (.ref t) (.ite t1 by_ bn) _ ((hx1.trans (hx2.trans (hx3.trans hx4))).new ht) ?_ ?_ (by rw [dpS]; omega)
      · rw [StA]; exact ⟨t, v1, py, pn, rfl, upd_same, ht1.mono (Tups.trans hx4.tups g), hby.mono g, hbn.mono (Tups.trans (hx3.trans hx4).tups g)⟩
      · rw [OkS]; exact ⟨okt, oky, okn⟩
    refine itF (decide_eq_false fun z => e9 (V.int.inj z)) ⟨_, rfl, rfl, _, rfl, ?_⟩
    by_cases e10 : k = 10
    · refine itT (by rw [e10]; decide) ?_
      refine ⟨_, rfl, _, rfl, h, c, cells, rfl, hx1.h1, c1, c5, fun v1 t1 H3 hx3 ht1 okt => ?_⟩
      refine ⟨_, rfl, _, rfl, _, rfl, _, rfl, _, rfl, _, _, rfl, rfl, h, c, cells, rts, many, deep + 1, rfl, hx3.h1, c1, c5, r1, r5, m1, m4, by omega, by omega, by omega, fun py by_ H4 hx4 hby oky hdy hly => ?_⟩
      refine ⟨(by show 3 ≤ sizeLine; decide), fun t ht => ?_⟩
      have g := Same.tups (Same.new (o := .tup [V.str "while", v1, V.ref py]) ht)
      refine q (.ref t) (.whl t1 by_) _ ((hx1.trans (hx3.trans hx4)).new ht) ?_ ?_ (by rw [dpS]; omega)
      · rw [StA]; exact ⟨t, v1, py, rfl, upd_same, ht1.mono (Tups.trans hx4.tups g), hby.mono g⟩
      · rw [OkS]; exact ⟨okt, oky⟩
    refine itF (decide_eq_false fun z => e10 (V.int.inj z)) ?_
    refine ⟨_, rfl, _, rfl, _, rfl, _, rfl, _, rfl, by omega, h, c, cells, rts, many, deep, rfl, hx1.h1, c1, c5, r1, r5, m1, m4, d1, dn, fun v s H2 hx2 hs ok hd => q v s H2 (hx1.trans hx2) hs ok hd⟩
theorem ok_lbody1 (T : Facts w K mg) (n : Nat) (G__law_statement : OkF P w K mg base CX0 (7 + 3 * n) "_law_statement" ["_law_hand_here", "_law_cells", "_law_routines_here", "_law_many", "_law_deep_here"] (spLSt n)) :
    OkF P w K mg base CX0 (5 + 3 * (n + 1)) "_law_body" ["_law_hand_here", "_law_cells", "_law_routines_here", "_law_many", "_law_deep_here"] (spLBd (n + 1)) := by
  have G__law_draw := ok_draw (P := P) (base := base) T
  have e6 : 5 + 3 * (n + 1) = (7 + 3 * n) + 1 := by omega
  rw [e6]
  refine T.d__law_body.ok sc__law_body bb__law_body (fun vs H Q E h => ?_) (fun f cdv A outer s H vs Q E hr h => ?_)
  · obtain ⟨_, _, _, _, _, _, rfl, _⟩ := h; rfl
  obtain ⟨h, c, cells, rts, many, deep, rfl, hh, c1, c5, r1, r5, m1, m4, d1, d5, dn, q⟩ := h
  refine ⟨_, (pss_one (ps_ret (pe_callTy call_tuple_of (by rfl) T.b_tuple bv_tuple (pa_cons (pe_lc (own := [("_law_k", 5)]) (g := (gName 5)) (tt := tYes) rfl sc__law_body.nd (pi_range1 (by rfl) T.b_range (pa_cons (pe_cal G__law_draw (hr.mono (by first | decide | omega)) (pa_cons (pv 0) (pa_cons pe_int pa_nil))) pa_nil)) (blkOk_by (N := N__law_body) (sc := defScope s__law_body) (by decide +kernel)) (fun _ _ _ _ _ => (pg_name (i := 5) sc__law_body.nd rfl (Or.inl rfl))) (fun _ _ _ _ _ => pts_nil) (fun _ _ _ _ _ => (pe_cal G__law_statement (hr.mono (by first | decide | omega)) (pa_cons (pv 0) (pa_cons (pv 1) (pa_cons (pv 2) (pa_cons (pv 3) (pa_cons (pv 4) pa_nil)))))))) pa_nil)))), ?_⟩
  refine ⟨_, rfl, h, c, 4, rfl, hh, by omega, by omega, fun k H1 k0 k1 hx1 => ⟨_, rfl, by omega, by omega, fun D hD => ?_⟩⟩
  have nD := hx1.free hD
  refine lc_range (n := k.toNat) (fun i H' => Hx h c H H' ∧ ∃ vs b, H' D = some (.lst vs) ∧ All2 (fun v s => StA H' s v) vs b ∧ vs.length = i ∧ OkB cells rts b ∧ dpB b ≤ n) ⟨hx1.new hD, [], [], upd_same, .nil, rfl, okB_nil, by rw [dpB]; omega⟩ ?_ ?_
  · rintro i H' hi ⟨hx, vs, b, e, hv, hl, okb, hdb⟩
    refine ⟨rfl, _, rfl, _, rfl, _, rfl, _, rfl, _, rfl, h, c, cells, rts, many, deep, rfl, hx.h1, c1, c5, r1, r5, m1, m4, d1, by omega, fun v s H2 hx2 hs ok hd => ⟨_, hx2.l e, szlt (by omega), (hx.trans hx2).mut nD, vs ++ [v], b ++ [s], upd_same, ?_, by rw [List.length_append, hl]; rfl, okB_snoc okb ok, by rw [dpB_snoc]; exact Nat.max_le.mpr ⟨hdb, hd⟩⟩⟩
    have kk : Tups H2 (upd H2 D (.lst (vs ++ [v]))) := fun x xs ex => by
      have : x ≠ D := ne_of ex (hx2.l e) (by intro z; cases z)
      rw [upd_ne this]; exact ex
    exact (hv.mono fun _ _ r => StA.mono (Tups.trans hx2.tups kk) _ _ r).snoc (StA.mono kk _ _ hs)
  · rintro H' ⟨hx, vs, b, e, hv, hl, okb, hdb⟩
    have := hv.len
    refine ⟨D, _, rfl, .inl ⟨SqL.of e, fun t ht => q t b _ (hx.new ht) (BdA.of upd_same (hv.mono fun _ _ r => StA.mono (Same.tups (Same.new ht)) _ _ r)) okb (by omega) (by omega)⟩⟩
theorem ok_lbody (T : Facts w K mg) : ∀ n : Nat, OkF P w K mg base CX0 (5 + 3 * n) "_law_body" ["_law_hand_here", "_law_cells", "_law_routines_here", "_law_many", "_law_deep_here"] (spLBd n)
  | 0 => T.d__law_body.none (N := []) bb__law_body fun vs H Q E h => by
    obtain ⟨h, c, cells, rts, many, deep, rfl, hh, c1, c5, r1, r5, m1, m4, d1, d5, dn, q⟩ := h
    omega
  | n + 1 => ok_lbody1 T n (ok_lstatement T n (ok_lbody T n))
theorem ok_lsize1 (T : Facts w K mg) (n : Nat) (G__law_size : OkF P w K mg base CX0 (1 + n) "_law_size" ["_law_body_here"] (spLSz n)) : OkF P w K mg base CX0 (1 + n + 1) "_law_size" ["_law_body_here"] (spLSz (n + 1)) := by
  refine T.d__law_size.ok sc__law_size bb__law_size (fun vs H Q E h => ?_) (fun f cdv A outer s H vs Q E hr h => ?_)
  · obtain ⟨_, _, rfl, _⟩ := h; rfl
  obtain ⟨p, b, rfl, hb, hd, q⟩ := h
  obtain ⟨vs, hp, hv⟩ := hb.all
  refine ⟨_, (pss_cons (ps_set (i := 1) sc__law_size.nd rfl (Or.inl rfl) pe_int)
      (pss_cons (ps_for PassesOwn.never rfl (pi_tup (pv 0)) (pg_name (i := 2) sc__law_size.nd rfl (Or.inl rfl)) (pss_cons (ps_set (i := 1) sc__law_size.nd rfl (Or.inl rfl) (pe_op op_add (pv 1) pe_int))
      (pss_one (ps_if (pt_cmpR op_in_seq (pe_ix ix_tup (pv 2) pe_int (fun _ _ => rfl)) (pe_tup (pa_cons pe_str (pa_cons pe_str pa_nil))) rfl) (pss_one (ps_set (i := 1) sc__law_size.nd rfl (Or.inl rfl) (pe_op op_add (pv 1) (pe_callB (cr_sum rfl) (by rfl) T.b_sum bv_sum (pa_cons (pe_lc (own := [("_law_inner", 3)]) (g := (gName 3)) (tt := tYes) rfl sc__law_size.nd (pi_tup (pe_slice sl_tupU (pv 2) (po_some pe_int) po_none)) (blkOk_by (N := N__law_size) (sc := defScope s__law_size) (by decide +kernel)) (fun _ _ _ _ _ => (pg_name (i := 3) sc__law_size.nd rfl (Or.inl rfl))) (fun _ _ _ _ _ => pts_nil) (fun _ _ _ _ _ => (pe_cal G__law_size (hr.mono (by first | decide | omega)) (pa_cons (pv 3) pa_nil)))) pa_nil))))) pss_nil))))
      (pss_one (ps_ret (pv 1))))), ?_⟩
  refine ⟨_, rfl, p, rfl, ⟨vs, SqT.of hp⟩, ?_⟩
  refine for_tup (xs := vs) (fun i σ H' => (∃ x y, σ = [some (.ref p), some (.int (szB (b.take i) : Int)), x, y]) ∧ Same H H') ⟨⟨none, none, rfl⟩, Same.refl'⟩ ?_ ?_ ?_
  · rintro i σ H' hi ⟨_, g⟩
    exact SqT.of (g.at_ hp)
  · rintro i v σ H' hi ⟨⟨x, y, rfl⟩, g⟩
    obtain ⟨st, hs, ha⟩ := hv.get' hi
    have hm := List.mem_of_getElem? hs
    have hdp := dpB_mem hm
    have hszs : szB (b.take i) + szS st = szB (b.take (i + 1)) := by rw [List.take_add_one, hs, szB_append]; show _ = _ + szB [st]; rw [szB, szB, Nat.add_zero]
    have ha' := StA.mono (Same.tups g) _ _ ha
    obtain ⟨a0, xs0, rfl, ha0⟩ := ha'.head
    refine ⟨_, rfl, _, _, rfl, rfl, _, rfl, _, _, _, _, rfl, rfl, SqT.of (ha0), atI_nat (j := 0) rfl, (by show 2 ≤ sizeLine; decide), fun l1 hl1 => ⟨l1, _, rfl, .inr (SqT.of upd_same), rfl, rfl, _, rfl, ?_⟩⟩
    have g1 : Same H' (upd H' l1 (.tup [V.str "if", V.str "while"])) := Same.new hl1
    by_cases pl : isPl st = true
    · refine itF ?_ ⟨⟨some (.ref a0), y, ?_⟩, g.trans g1⟩
      · rw [if_neg (by decide)]; exact inv_w_pl pl
      · have e9 : (szB (b.take i) : Int) + 1 = (szB (b.take (i + 1)) : Int) := by rw [sz_pl pl] at hszs; omega
        rw [← e9]; rfl
    · refine itT ?_ ?_
      · rw [if_neg (by decide)]
        have := word_np pl
        cases e : inV (.str (wordS st)) [.str "if", .str "while"] with
        | true => rfl
        | false => rw [e] at this; cases this
      have hts : ∃ (w0 : Str) (p0 : V) (qs : List V) (bs : List (List Stm)), H' a0 = some (.tup (.str w0 :: p0 :: qs)) ∧ All2 (fun v b => ∃ q, v = .ref q ∧ BdA H' q b) qs bs ∧ (∀ b' ∈ bs, dpB b' < n) ∧ szS st = 1 + (bs.map szB).sum ∧ bs.length ≤ 2 := by
        cases st with
        | ite t y m =>
          rw [StA] at ha'
          obtain ⟨a', p0, q0, r', e, e2, ht, hy, hm'⟩ := ha'
          cases e
          rw [dpS] at hdp
          have h1 := Nat.le_max_left (dpB y) (dpB m)
          have h2 := Nat.le_max_right (dpB y) (dpB m)
          refine ⟨_, _, _, [y, m], e2, .cons ⟨_, rfl, hy⟩ (.cons ⟨_, rfl, hm'⟩ .nil), ?_, by rw [szS]; simp, by simp⟩
          intro b' hb'
          rcases List.mem_cons.mp hb' with rfl | hb'
          · omega
          · have : b' = m := by simpa using hb'
            subst this; omega
        | whl t y =>
          rw [StA] at ha'
          obtain ⟨a', p0, q0, e, e2, ht, hy⟩ := ha'
          cases e
          rw [dpS] at hdp
          refine ⟨_, _, _, [y], e2, .cons ⟨_, rfl, hy⟩ .nil, ?_, by rw [szS]; simp, by simp⟩
          intro b' hb'
          have : b' = y := by simpa using hb'
          subst this; omega
        | set _ _ => exact absurd rfl pl
        | put _ _ _ => exact absurd rfl pl
        | ask _ _ _ => exact absurd rfl pl
        | call _ => exact absurd rfl pl
      obtain ⟨w0, p0, qs, bs, hta, hbs, hdps, hsz, hl2⟩ := hts
      have ql : qs.length = bs.length := hbs.len
      refine ⟨_, rfl, _, rfl, _, rfl, a0, _, rfl, g1.at_ hta, fun pc H2 g2 e2 => ⟨pc, rfl, ⟨_, SqT.of e2⟩, fun D hD => ?_⟩⟩
      have e0 : cutV (V.str w0 :: p0 :: qs) (some 2) none = qs := cut_from (xs := V.str w0 :: p0 :: qs) (k := 2) (n := 2) (by show 2 ≤ qs.length + 1 + 1; omega) rfl
      rw [e0] at e2
      have g12 := g1.trans g2
      have nD' : H' D = none := by
        cases e : H' D with
        | none => rfl
        | some o => rw [g12.at_ e] at hD; cases hD
      refine lc_tup (xs := qs) (fun i H3 => Same H' H3 ∧ H3 pc = some (.tup qs) ∧ H3 D = some (.lst (((bs.take i).map fun b => (szB b : Int)).map V.int))) ⟨Same.then_ g12 hD, newAt e2 hD, upd_same⟩ ?_ ?_ ?_
      · rintro j H3 hj ⟨g3, h1, h2⟩
        exact SqT.of h1
      · rintro j v H3 hj ⟨g3, h1, h2⟩
        obtain ⟨b', hb1, q', rfl, hbd⟩ := hbs.get' hj
        have hj2 := (List.getElem?_eq_some_iff.mp hj).1
        refine ⟨rfl, _, rfl, q', b', rfl, hbd.mono (Same.tups g3), hdps b' (List.mem_of_getElem? hb1), fun H4 g4 => ⟨_, g4.at_ h2, ?_, ?_, ?_, ?_⟩⟩
        · rw [List.length_map, List.length_map, List.length_take]; exact szlt (by omega)
        · exact Same.mut (g3.trans g4) nD'
        · have : pc ≠ D := ne_of (g4.at_ h1) (g4.at_ h2) (by intro z; cases z)
          rw [upd_ne this]; exact g4.at_ h1
        · rw [upd_same, List.take_add_one, hb1, List.map_append, List.map_append]; rfl
      · rintro H3 ⟨g3, h1, h2⟩
        rw [ql, List.take_length] at h2
        refine ⟨D, _, rfl, SqL.of h2, _, _, rfl, rfl, ⟨some (.ref a0), y, ?_⟩, g.trans g3⟩
        have esum : ∀ l : List (List Stm), (l.map fun b => (szB b : Int)).sum = (((l.map szB).sum : Nat) : Int) := by
          intro l
          induction l with
          | nil => rfl
          | cons x r ih => rw [List.map_cons, List.map_cons, List.sum_cons, List.sum_cons, ih]; omega
        have e9 : (szB (b.take i) : Int) + 1 + (bs.map fun b => (szB b : Int)).sum = (szB (b.take (i + 1)) : Int) := by rw [esum]; omega
        rw [← e9]; rfl
  · rintro σ H' ⟨⟨x, y, rfl⟩, g⟩
    refine ⟨_, rfl, ?_⟩
    rw [hv.len, List.take_length]
    exact q _ g
theorem ok_lsize (T : Facts w K mg) : ∀ n : Nat, OkF P w K mg base CX0 (1 + n) "_law_size" ["_law_body_here"] (spLSz n)
  | 0 => T.d__law_size.none (N := []) bb__law_size fun vs H Q E h => by
    obtain ⟨_, _, _, _, hd, _⟩ := h
    omega
  | n + 1 => ok_lsize1 T n (ok_lsize T n)
end
end K34

set_option Elab.async false
set_option linter.all false
set_option maxRecDepth 100000
set_option maxHeartbeats 4000000
/-! D12: routines, sizes, the hand, something deep. -/
namespace K34
open PySem PySem.Spec PyProof.Rows L2
open He (ga ma)
def spLHand (K : PySem.W.Frag) : Sp := fun vs H Q _ => ∃ (a : Addr) (ns : List Int), vs = [.ref a] ∧ SqL K H a (ns.map V.int) ∧ ∀ h c H', Same H H' → Hand c H' h → Q (.ref h) H'
def spLSizes : Sp := fun vs H Q _ => ∃ (h c : Addr), vs = [.ref h, .int 4] ∧ Hand c H h ∧ ∀ p zs H', Hx h c H H' → SizA H' p zs → zs ≠ [] → zs.length ≤ 4 → (∀ z ∈ zs, 1 ≤ z.1 ∧ z.1 ≤ 1000 ∧ 1 ≤ z.2 ∧ z.2 ≤ 1000) → Q (.ref p) H'
def spLDeep : Sp := fun vs H Q _ => ∃ (h c : Addr), vs = [.ref h] ∧ Hand c H h ∧ ∀ v t H', Hx h c H H' → KTy H' v t → t ≠ "int" → t ≠ "bool" → Q v H'
section
variable {P : Program} {w : World} {K : PySem.W.Frag} {mg : Str → Option Value} {base : Heap}
theorem ok_lroutines (T : Facts w K mg) : OkF P w K mg base CX0 20 "_law_routines" ["_law_hand_here", "_law_cells", "_law_many"] spLRts := by
  have G__law_draw := ok_draw (P := P) (base := base) T
  have G__law_any := ok_any (P := P) (base := base) T
  have G__law_size := ok_lsize (P := P) (base := base) T 5
  have G__law_statement := ok_lstatement (P := P) (base := base) T 4 (ok_lbody T 4)
  refine T.d__law_routines.ok sc__law_routines bb__law_routines (fun vs H Q E h => ?_) (fun f cdv A outer s H vs Q E hr h => ?_)
  · obtain ⟨_, _, _, _, rfl, _⟩ := h; rfl
  obtain ⟨h, c, cells, many, rfl, hh, c1, c5, m1, m4, q⟩ := h
  refine ⟨_, (pss_cons (ps_set (i := 3) sc__law_routines.nd rfl (Or.inl rfl) (pe_cal G__law_any (hr.mono (by first | decide | omega)) (pa_cons (pv 0) (pa_cons (pe_lst (pa_cons pe_int (pa_cons pe_int (pa_cons pe_int (pa_cons pe_int (pa_cons pe_int (pa_cons pe_int pa_nil))))))) pa_nil))))
      (pss_cons (ps_set (i := 4) sc__law_routines.nd rfl (Or.inl rfl) (pe_lst pa_nil))
      (pss_cons (ps_for PassesOwn.never rfl (pi_range1 (by rfl) T.b_range (pa_cons (pv 3) pa_nil)) (pg_name (i := 5) sc__law_routines.nd rfl (Or.inl rfl)) (pss_cons (ps_set (i := 6) sc__law_routines.nd rfl (Or.inl rfl) (pe_tup pa_nil))
      (pss_cons (ps_for PassesOwn.never rfl (pi_range1 (by rfl) T.b_range (pa_cons (pe_op op_add pe_int (pe_cal G__law_draw (hr.mono (by first | decide | omega)) (pa_cons (pv 0) (pa_cons pe_int pa_nil)))) pa_nil)) (pg_name (i := 7) sc__law_routines.nd rfl (Or.inl rfl)) (pss_cons (ps_set (i := 8) sc__law_routines.nd rfl (Or.inl rfl) (pe_tup (pa_cons (pe_cal G__law_statement (hr.mono (by first | decide | omega)) (pa_cons (pv 0) (pa_cons (pv 1) (pa_cons (pv 3) (pa_cons (pv 2) (pa_cons pe_int pa_nil)))))) pa_nil)))
      (pss_one (ps_if (pt_cmpR op_le (pe_cal G__law_size (hr.mono (by first | decide | omega)) (pa_cons (pe_op op_catU (pv 6) (pv 8)) pa_nil)) pe_int (nomark _)) (pss_one (ps_set (i := 6) sc__law_routines.nd rfl (Or.inl rfl) (pe_op op_catU (pv 6) (pv 8)))) pss_nil))))
      (pss_one (ps_expr (pe_bm PySem.F.plainAttrs_list PySem.F.slot_list_append PySem.F.type_list_append mt_append (pv 4) (pa_cons (pv 6) pa_nil)))))))
      (pss_one (ps_ret (pe_callTy call_tuple_of (by rfl) T.b_tuple bv_tuple (pa_cons (pv 4) pa_nil))))))), ?_⟩
  refine ⟨_, rfl, (by show 6 ≤ sizeLine; decide), fun l1 hl1 => ⟨h, c, l1, _, IntIn 1 5, rfl, ((Hx.refl hh).new hl1).h1, upd_same, by simp, by show 6 ≤ 100; omega, fa ⟨_, rfl, by omega, by omega⟩ (fa ⟨_, rfl, by omega, by omega⟩ (fa ⟨_, rfl, by omega, by omega⟩ (fa ⟨_, rfl, by omega, by omega⟩ (fa ⟨_, rfl, by omega, by omega⟩ (fa ⟨_, rfl, by omega, by omega⟩ fn))))), ?_⟩⟩
  rintro v H2 ⟨z, rfl, z1, z5⟩ hx2
  obtain ⟨n, rfl⟩ : ∃ n : Nat, z = (n : Int) := ⟨z.toNat, by omega⟩
  have hx12 := ((Hx.refl hh).new (o := .lst [V.int 1, V.int 2, V.int 3, V.int 3, V.int 4, V.int 5]) hl1).trans hx2
  refine ⟨(by show 0 ≤ sizeLine; decide), fun l3 hl3 => ?_⟩
  have hx3 := hx12.new (o := .lst []) hl3
  have n3 := hx12.free hl3
  refine ⟨_, rfl, _, rfl, by omega, by omega, ?_⟩
  refine for_range (n := ((n : Int)).toNat) (fun i σ H' => (∃ x5 x6 x7 x8, σ = [some (.ref h), some (.int (cells : Int)), some (.int (many : Int)), some (.int (n : Int)), some (.ref l3), x5, x6, x7, x8]) ∧ Hx h c H H' ∧ ∃ vs rs, H' l3 = some (.lst vs) ∧ All2 (fun v b => ∃ q, v = .ref q ∧ BdA H' q b) vs rs ∧ vs.length = i ∧ ∀ b ∈ rs, OkB cells n b ∧ dpB b ≤ 4 ∧ szB b ≤ 60)
    ⟨⟨_, _, _, _, rfl⟩, hx3, [], [], upd_same, .nil, rfl, fun b m => by cases m⟩ ?_ ?_
  · rintro i σ H' hi ⟨⟨x5, x6, x7, x8, rfl⟩, hx, vs, rs, el, hv, hvl, hrs⟩
    have hi : i < ((n : Int)).toNat := hi
    refine ⟨(by show 0 ≤ sizeLine; decide), fun t4 ht4 => ?_⟩
    have hy4 := (Hx.refl hx.h1).new (o := .tup []) ht4
    refine ⟨_, rfl, h, c, 5, rfl, hy4.h1, by omega, by omega, fun r H5 r0 r1 hx5 => ⟨_, _, rfl, rfl, _, rfl, by omega, by omega, ?_⟩⟩
    have hy5 := hy4.trans hx5
    refine for_range (n := ((1 : Int) + r).toNat) (fun j σ H'' => (∃ pb x7 x8, σ = [some (.ref h), some (.int (cells : Int)), some (.int (many : Int)), some (.int (n : Int)), some (.ref l3), some (.int (0 + (i : Int))), some (.ref pb), x7, x8] ∧ ∃ b, BdA H'' pb b ∧ OkB cells n b ∧ dpB b ≤ 4 ∧ szB b ≤ 60 ∧ b.length ≤ j) ∧ Hx h c H' H'')
      ⟨⟨t4, _, _, rfl, [], BdA.of (hx5.t upd_same) .nil, okB_nil, by rw [dpB]; omega, by rw [szB]; omega, Nat.zero_le _⟩, hy5⟩ ?_ ?_
    · rintro j σ H'' hj ⟨⟨pb, x7, x8, rfl, b, hb, okb, hdb, hsb, hlb⟩, hy⟩
      have hj : j < ((1 : Int) + r).toNat := hj
      refine ⟨_, rfl, _, rfl, _, rfl, _, rfl, h, c, cells, n, many, 1, rfl, hy.h1, c1, c5, by omega, by omega, m1, m4, by omega, by omega, fun v st H6 hx6 hs ok hd => ⟨(by show 1 ≤ sizeLine; decide), fun t7 ht7 => ?_⟩⟩
      have g7 : Same H6 (upd H6 t7 (.tup [v])) := Same.new ht7
      obtain ⟨bvs, hpb, hbv⟩ := hb.all
      have hbl := hbv.len
      have k7 : Tups H'' (upd H6 t7 (.tup [v])) := Tups.trans hx6.tups (Same.tups g7)
      have hbv7 : All2 (fun x y => StA (upd H6 t7 (.tup [v])) y x) (bvs ++ [v]) (b ++ [st]) := (hbv.mono fun _ _ r => StA.mono k7 _ _ r).snoc (StA.mono (Same.tups g7) _ _ hs)
      refine ⟨_, rfl, _, rfl, pb, t7, _, _, rfl, rfl, k7 _ _ hpb, upd_same, by rw [hbl]; show b.length + 1 ≤ _; omega, fun p8 H8 g8 e8 => ?_⟩
      have hd5 : dpB (b ++ [st]) ≤ 4 := by rw [dpB_snoc]; exact Nat.max_le.mpr ⟨hdb, hd⟩
      refine ⟨p8, b ++ [st], rfl, BdA.of e8 (hbv7.mono fun _ _ r => StA.mono (Same.tups g8) _ _ r), by omega, fun H9 g9 => ⟨_, _, rfl, rfl, _, rfl, ite2 (fun cc => ?_) (fun cc => ?_)⟩⟩
      · have cc := of_decide_eq_true cc
        have g89 := g8.trans g9
        refine ⟨_, rfl, _, rfl, pb, t7, _, _, rfl, rfl, g89.at_ (k7 _ _ hpb), g89.at_ upd_same, by rw [hbl]; show b.length + 1 ≤ _; omega, fun p10 H10 g10 e10 => ?_⟩
        have g810 := g89.trans g10
        refine ⟨⟨p10, _, _, rfl, b ++ [st], BdA.of e10 (hbv7.mono fun _ _ r => StA.mono (Same.tups g810) _ _ r), okB_snoc okb ok, hd5, by omega, by rw [List.length_append]; show b.length + 1 ≤ _; omega⟩, (hy.trans hx6).same (g7.trans g810)⟩
      · refine ⟨⟨pb, _, _, rfl, b, hb.mono (Tups.trans k7 (Same.tups (g8.trans g9))), okb, hdb, hsb, by omega⟩, (hy.trans hx6).same (g7.trans (g8.trans g9))⟩
    · rintro σ H'' ⟨⟨pb, x7, x8, rfl, b, hb, okb, hdb, hsb, hlb⟩, hy⟩
      have el2 := hy.l el
      refine ⟨_, rfl, .inl ⟨rfl, _, SqL.of el2⟩, _, rfl, l3, _, _, rfl, rfl, el2, szlt (by omega), ?_⟩
      have kk : Tups H'' (upd H'' l3 (.lst (vs ++ [.ref pb]))) := fun x xs ex => by
        have : x ≠ l3 := ne_of ex el2 (by intro z; cases z)
        rw [upd_ne this]; exact ex
      refine ⟨⟨_, _, _, _, rfl⟩, (hx.trans hy).mut n3, vs ++ [.ref pb], rs ++ [b], upd_same, ?_, by rw [List.length_append, hvl]; rfl, fun b' m => ?_⟩
      · exact (hv.mono fun _ _ ⟨q, e, r⟩ => ⟨q, e, r.mono (Tups.trans hy.tups kk)⟩).snoc ⟨pb, rfl, hb.mono kk⟩
      · rcases List.mem_append.mp m with m | m
        · exact hrs b' m
        · have : b' = b := by simpa using m
          rw [this]; exact ⟨okb, hdb, hsb⟩
  · rintro σ H' ⟨⟨x5, x6, x7, x8, rfl⟩, hx, vs, rs, el, hv, hvl, hrs⟩
    have hl2 := hv.len
    have en : n = rs.length := by omega
    refine ⟨_, rfl, l3, _, rfl, .inl ⟨SqL.of el, fun t ht => ?_⟩⟩
    refine q t rs _ (hx.new ht) ⟨vs, upd_same, hv.mono fun _ _ ⟨q, e, r⟩ => ⟨q, e, r.mono (Same.tups (Same.new ht))⟩⟩ ⟨fun b m => by rw [← en]; exact (hrs b m).1, fun b m => (hrs b m).2.1, fun b m => (hrs b m).2.2, by omega, by omega⟩
theorem ok_lsizes (T : Facts w K mg) : OkF P w K mg base CX0 3 "_law_sizes" ["_law_hand_here", "_law_most"] spLSizes := by
  have G__law_draw := ok_draw (P := P) (base := base) T
  have G__law_any := ok_any (P := P) (base := base) T
  refine T.d__law_sizes.ok sc__law_sizes bb__law_sizes (fun vs H Q E h => ?_) (fun f cdv A outer s H vs Q E hr h => ?_)
  · obtain ⟨_, _, rfl, _⟩ := h; rfl
  obtain ⟨h, c, rfl, hh, q⟩ := h
  refine ⟨_, (pss_cons (ps_set (i := 2) sc__law_sizes.nd rfl (Or.inl rfl) (pe_cmpR op_eq (pe_cal G__law_draw (hr.mono (by first | decide | omega)) (pa_cons (pv 0) (pa_cons pe_int pa_nil))) pe_int (nomark _)))
      (pss_cons (ps_set (i := 3) sc__law_sizes.nd rfl (Or.inl rfl) (pe_lst pa_nil))
      (pss_cons (ps_for PassesOwn.never rfl (pi_range1 (by rfl) T.b_range (pa_cons (pe_op op_add pe_int (pe_cal G__law_draw (hr.mono (by first | decide | omega)) (pa_cons (pv 0) (pa_cons (pv 1) pa_nil)))) pa_nil)) (pg_name (i := 4) sc__law_sizes.nd rfl (Or.inl rfl)) (pss_cons (ps_set (i := 5) sc__law_sizes.nd rfl (Or.inl rfl) (pe_tup (pa_cons (pe_op op_add pe_int (pe_cal G__law_draw (hr.mono (by first | decide | omega)) (pa_cons (pv 0) (pa_cons pe_int pa_nil)))) (pa_cons (pe_op op_add pe_int (pe_cal G__law_draw (hr.mono (by first | decide | omega)) (pa_cons (pv 0) (pa_cons pe_int pa_nil)))) pa_nil))))
      (pss_cons (ps_if (pt_cmpR op_eq (pe_cal G__law_draw (hr.mono (by first | decide | omega)) (pa_cons (pv 0) (pa_cons pe_int pa_nil))) pe_int (nomark _)) (pss_one (ps_set (i := 5) sc__law_sizes.nd rfl (Or.inl rfl) (pe_tup (pa_cons (pe_cal G__law_any (hr.mono (by first | decide | omega)) (pa_cons (pv 0) (pa_cons (pe_lst (pa_cons pe_int (pa_cons pe_int (pa_cons (pe_op op_add pe_int (pe_cal G__law_draw (hr.mono (by first | decide | omega)) (pa_cons (pv 0) (pa_cons pe_int pa_nil)))) pa_nil)))) pa_nil))) (pa_cons (pe_ix ix_tup (pv 5) pe_int (fun _ _ => rfl)) pa_nil))))) pss_nil)
      (pss_one (ps_expr (pe_bm PySem.F.plainAttrs_list PySem.F.slot_list_append PySem.F.type_list_append mt_append (pv 3) (pa_cons (pe_ifExp (PW.pt (pw_and (pt_val (pv 2)) (pw_and1 (pt_cmpR op_gt (pv 4) pe_int (nomark _))))) (pe_ix ix_list (pv 3) pe_int (fun _ _ => rfl)) (pv 5)) pa_nil)))))))
      (pss_one (ps_ret (pe_callTy call_tuple_of (by rfl) T.b_tuple bv_tuple (pa_cons (pv 3) pa_nil))))))), ?_⟩
  refine ⟨_, rfl, h, c, 3, rfl, hh, by omega, by omega, fun al H1 a0 a1 hx1 => ⟨rfl, ?_⟩⟩
  generalize decide (V.int al = V.int 0) = alike
  refine ⟨(by show 0 ≤ sizeLine; decide), fun l2 hl2 => ?_⟩
  have hx2 := hx1.new (o := .lst []) hl2
  have n2 := hx1.free hl2
  refine ⟨_, rfl, _, rfl, h, c, 4, rfl, hx2.h1, by omega, by omega, fun r H3 r0 r1 hx3 => ⟨_, _, rfl, rfl, _, rfl, by omega, by omega, ?_⟩⟩
  refine for_range (n := ((1 : Int) + r).toNat) (fun i σ H' => (∃ x4 x5, σ = [some (.ref h), some (.int 4), some (.bl alike), some (.ref l2), x4, x5]) ∧ Hx h c H H' ∧ ∃ vs zs, H' l2 = some (.lst vs) ∧ All2 (fun v (z : Int × Int) => ∃ a, v = .ref a ∧ H' a = some (.tup [.int z.1, .int z.2])) vs zs ∧ vs.length = i ∧ ∀ z ∈ zs, 1 ≤ z.1 ∧ z.1 ≤ 1000 ∧ 1 ≤ z.2 ∧ z.2 ≤ 1000)
    ⟨⟨_, _, rfl⟩, hx2.trans hx3, [], [], hx3.l upd_same, .nil, rfl, fun b m => by cases m⟩ ?_ ?_
  · rintro i σ H' hi ⟨⟨x4, x5, rfl⟩, hx, vs, zs, el, hv, hvl, hzs⟩
    have hi : i < ((1 : Int) + r).toNat := hi
    refine ⟨_, rfl, h, c, 4, rfl, hx.h1, by omega, by omega, fun y1 H4 y10 y11 hx4 => ⟨_, _, rfl, rfl, _, rfl, h, c, 4, rfl, hx4.h1, by omega, by omega, fun y2 H5 y20 y21 hx5 => ⟨_, _, rfl, rfl, (by show 2 ≤ sizeLine; decide), fun t6 ht6 => ?_⟩⟩⟩
    have hy6 := (hx4.trans hx5).new (o := .tup [V.int (1 + y1), V.int (1 + y2)]) ht6
    refine ⟨_, rfl, h, c, 12, rfl, hy6.h1, by omega, by omega, fun k H7 k0 k1 hx7 => ⟨rfl, _, rfl, ?_⟩⟩
    have hy7 := hy6.trans hx7
    have e6 := hx7.t (upd_same (H := H5) (a := t6) (o := .tup [V.int (1 + y1), V.int (1 + y2)]))
    by_cases ck : k = 0
    · refine itT (by rw [ck]; decide) ?_
      refine ⟨_, rfl, _, rfl, h, c, 1000, rfl, hy7.h1, by omega, by omega, fun y3 H8 y30 y31 hx8 => ⟨_, _, rfl, rfl, (by show 3 ≤ sizeLine; decide), fun l9 hl9 => ?_⟩⟩
      have hy9 := (hy7.trans hx8).new (o := .lst [V.int 1000, V.int 999, V.int (1 + y3)]) hl9
      refine ⟨h, c, l9, _, IntIn 1 1000, rfl, hy9.h1, upd_same, by simp, by show 3 ≤ 100; omega, fa ⟨_, rfl, by omega, by omega⟩ (fa ⟨_, rfl, by omega, by omega⟩ (fa ⟨_, rfl, by omega, by omega⟩ fn)), ?_⟩
      rintro v Ha ⟨y4, rfl, y40, y41⟩ hxa
      have e6a := hxa.t (newAt (hx8.t e6) hl9)
      refine ⟨_, rfl, _, _, _, _, rfl, rfl, SqT.of (e6a), atI_nat (j := 1) rfl, (by show 2 ≤ sizeLine; decide), fun tb htb => ?_⟩
      have hyb := (hy9.trans hxa).new (o := .tup [V.int y4, V.int (1 + y2)]) htb
      have elz := Hx.l hyb el
      have fin : ∀ (ta : Addr) (z : Int × Int), (upd Ha tb (.tup [V.int y4, V.int (1 + y2)])) ta = some (.tup [.int z.1, .int z.2]) → (1 ≤ z.1 ∧ z.1 ≤ 1000 ∧ 1 ≤ z.2 ∧ z.2 ≤ 1000) → ∀ x4 x5 : Option V, (∃ x4' x5', [some (V.ref h), some (.int 4), some (.bl alike), some (.ref l2), x4, x5] = [some (.ref h), some (.int 4), some (.bl alike), some (.ref l2), x4', x5']) ∧ Hx h c H (upd (upd Ha tb (.tup [V.int y4, V.int (1 + y2)])) l2 (.lst (vs ++ [.ref ta]))) ∧ ∃ vs' zs', upd (upd Ha tb (.tup [V.int y4, V.int (1 + y2)])) l2 (.lst (vs ++ [.ref ta])) l2 = some (.lst vs') ∧ All2 (fun v (z : Int × Int) => ∃ a, v = .ref a ∧ upd (upd Ha tb (.tup [V.int y4, V.int (1 + y2)])) l2 (.lst (vs ++ [.ref ta])) a = some (.tup [.int z.1, .int z.2])) vs' zs' ∧ vs'.length = i + 1 ∧ ∀ z ∈ zs', 1 ≤ z.1 ∧ z.1 ≤ 1000 ∧ 1 ≤ z.2 ∧ z.2 ≤ 1000 := by
        intro ta z ez bz x4 x5
        have kk : Tups (upd Ha tb (.tup [V.int y4, V.int (1 + y2)])) (upd (upd Ha tb (.tup [V.int y4, V.int (1 + y2)])) l2 (.lst (vs ++ [.ref ta]))) := fun x xs ex => by
          have : x ≠ l2 := ne_of ex elz (by intro z; cases z)
          rw [upd_ne this]; exact ex
        refine ⟨⟨_, _, rfl⟩, (Hx.trans hx hyb).mut n2, vs ++ [.ref ta], zs ++ [z], upd_same, ?_, by rw [List.length_append, hvl]; rfl, fun b' m => ?_⟩
        · exact (hv.mono fun _ _ ⟨a, e, r⟩ => ⟨a, e, kk _ _ (Hx.t hyb r)⟩).snoc ⟨ta, rfl, kk _ _ ez⟩
        · rcases List.mem_append.mp m with m | m
          · exact hzs b' m
          · have : b' = z := by simpa using m
            rw [this]; exact bz
      refine ⟨_, rfl, .inl ⟨rfl, _, SqL.of elz⟩, _, rfl, _, rfl, ?_⟩
      have hself : ∀ {A B : Prop}, A → B → (if alike = true then A else B) := fun a b => by split <;> assumption
      by_cases cal : alike = true ∧ 0 < i
      · have hi0 : 0 < vs.length := by omega
        obtain ⟨v0, zz, evz⟩ : ∃ v0 r0, vs = v0 :: r0 := by
          cases vs with
          | nil => exact absurd hi0 (by decide)
          | cons a b => exact ⟨a, b, rfl⟩
        obtain ⟨z0, hz0, a0', rfl, ea0⟩ := hv.get' (i := 0) (x := v0) (by rw [evz]; rfl)
        refine itT cal.1 ⟨_, rfl, _, _, rfl, rfl, _, rfl, itT (decide_eq_true (by omega)) ⟨_, rfl, _, _, _, _, rfl, rfl, SqL.of elz, atI_nat (j := 0) (by rw [evz]; rfl), l2, _, _, rfl, rfl, elz, szlt (by omega), ?_⟩⟩
        exact fin a0' z0 (Hx.t hyb ea0) (hzs z0 (List.mem_of_getElem? hz0)) _ _
      · cases ea : alike with
        | false =>
          refine itF rfl ⟨_, rfl, l2, _, _, rfl, rfl, elz, szlt (by omega), ?_⟩
          rw [ea] at fin
          exact fin tb ((y4, 1 + y2)) upd_same ⟨by omega, by omega, by omega, by omega⟩ _ _
        | true =>
          have : i = 0 := by
            cases i with
            | zero => rfl
            | succ i => exact absurd ⟨ea, Nat.succ_pos i⟩ cal
          refine itT rfl ⟨_, rfl, _, _, rfl, rfl, _, rfl, itF (decide_eq_false (by omega)) ⟨_, rfl, l2, _, _, rfl, rfl, elz, szlt (by omega), ?_⟩⟩
          rw [ea] at fin
          exact fin tb ((y4, 1 + y2)) upd_same ⟨by omega, by omega, by omega, by omega⟩ _ _
    · refine itF (decide_eq_false fun z => ck (V.int.inj z)) ?_
      have elz := Hx.l hy7 el
      have fin : ∀ (ta : Addr) (z : Int × Int), H7 ta = some (.tup [.int z.1, .int z.2]) → (1 ≤ z.1 ∧ z.1 ≤ 1000 ∧ 1 ≤ z.2 ∧ z.2 ≤ 1000) → ∀ x4 x5 : Option V, (∃ x4' x5', [some (V.ref h), some (.int 4), some (.bl alike), some (.ref l2), x4, x5] = [some (.ref h), some (.int 4), some (.bl alike), some (.ref l2), x4', x5']) ∧ Hx h c H (upd H7 l2 (.lst (vs ++ [.ref ta]))) ∧ ∃ vs' zs', upd H7 l2 (.lst (vs ++ [.ref ta])) l2 = some (.lst vs') ∧ All2 (fun v (z : Int × Int) => ∃ a, v = .ref a ∧ upd H7 l2 (.lst (vs ++ [.ref ta])) a = some (.tup [.int z.1, .int z.2])) vs' zs' ∧ vs'.length = i + 1 ∧ ∀ z ∈ zs', 1 ≤ z.1 ∧ z.1 ≤ 1000 ∧ 1 ≤ z.2 ∧ z.2 ≤ 1000 := by
        intro ta z ez bz x4 x5
        have kk : Tups H7 (upd H7 l2 (.lst (vs ++ [.ref ta]))) := fun x xs ex => by
          have : x ≠ l2 := ne_of ex elz (by intro z; cases z)
          rw [upd_ne this]; exact ex
        refine ⟨⟨_, _, rfl⟩, (Hx.trans hx hy7).mut n2, vs ++ [.ref ta], zs ++ [z], upd_same, ?_, by rw [List.length_append, hvl]; rfl, fun b' m => ?_⟩
        · exact (hv.mono fun _ _ ⟨a, e, r⟩ => ⟨a, e, kk _ _ (Hx.t hy7 r)⟩).snoc ⟨ta, rfl, kk _ _ ez⟩
        · rcases List.mem_append.mp m with m | m
          · exact hzs b' m
          · have : b' = z := by simpa using m
            rw [this]; exact bz
      refine ⟨_, rfl, .inl ⟨rfl, _, SqL.of elz⟩, _, rfl, _, rfl, ?_⟩
      have hself : ∀ {A B : Prop}, A → B → (if alike = true then A else B) := fun a b => by split <;> assumption
      by_cases cal : alike = true ∧ 0 < i
      · have hi0 : 0 < vs.length := by omega
        obtain ⟨v0, zz, evz⟩ : ∃ v0 r0, vs = v0 :: r0 := by
          cases vs with
          | nil => exact absurd hi0 (by decide)
          | cons a b => exact ⟨a, b, rfl⟩
        obtain ⟨z0, hz0, a0', rfl, ea0⟩ := hv.get' (i := 0) (x := v0) (by rw [evz]; rfl)
        refine itT cal.1 ⟨_, rfl, _, _, rfl, rfl, _, rfl, itT (decide_eq_true (by omega)) ⟨_, rfl, _, _, _, _, rfl, rfl, SqL.of elz, atI_nat (j := 0) (by rw [evz]; rfl), l2, _, _, rfl, rfl, elz, szlt (by omega), ?_⟩⟩
        exact fin a0' z0 (Hx.t hy7 ea0) (hzs z0 (List.mem_of_getElem? hz0)) _ _
      · cases ea : alike with
        | false =>
          refine itF rfl ⟨_, rfl, l2, _, _, rfl, rfl, elz, szlt (by omega), ?_⟩
          rw [ea] at fin
          exact fin t6 ((1 + y1, 1 + y2)) e6 ⟨by omega, by omega, by omega, by omega⟩ _ _
        | true =>
          have : i = 0 := by
            cases i with
            | zero => rfl
            | succ i => exact absurd ⟨ea, Nat.succ_pos i⟩ cal
          refine itT rfl ⟨_, rfl, _, _, rfl, rfl, _, rfl, itF (decide_eq_false (by omega)) ⟨_, rfl, l2, _, _, rfl, rfl, elz, szlt (by omega), ?_⟩⟩
          rw [ea] at fin
          exact fin t6 ((1 + y1, 1 + y2)) e6 ⟨by omega, by omega, by omega, by omega⟩ _ _
  · rintro σ H' ⟨⟨x4, x5, rfl⟩, hx, vs, zs, el, hv, hvl, hzs⟩
    have hl2 := hv.len
    refine ⟨_, rfl, l2, _, rfl, .inl ⟨SqL.of el, fun t ht => ?_⟩⟩
    refine q t zs _ (hx.new ht) ⟨vs, upd_same, hv.mono fun _ _ ⟨a, e, r⟩ => ⟨a, e, newAt r ht⟩⟩ (fun z => by rw [z] at hl2; have : vs.length = 0 := hl2; omega) (by omega) hzs
theorem ok_lhand (T : Facts w K mg) : OkF P w K mg base CX0 1 "_law_hand" ["_law_script"] (spLHand K) := by
  refine T.d__law_hand.ok sc__law_hand bb__law_hand (fun vs H Q E h => ?_) (fun f cdv A outer s H vs Q E hr h => ?_)
  · obtain ⟨_, _, rfl, _⟩ := h; rfl
  obtain ⟨a, ns, rfl, ha, q⟩ := h
  refine ⟨_, (pss_cons (ps_setLc (i := 1) (own := [("_law_cell", 2)]) (g := (gName 2)) (tt := tYes) rfl sc__law_hand.nd rfl rfl (sw_true rfl rfl rfl (by decide +kernel)) (pi_list (pe_slice sl_list (pv 0) po_none (po_some pe_int))) (blkOk_by (N := N__law_hand) (sc := defScope s__law_hand) (by decide +kernel)) (fun _ _ _ _ _ => (pg_name (i := 2) sc__law_hand.nd rfl (Or.inl rfl))) (fun _ _ _ _ _ => pts_nil) (fun _ _ _ _ _ => (pe_callB call_abs (by rfl) T.b_abs bv_abs (pa_cons (pe_callTy call_int1 (by rfl) T.b_int bv_int (pa_cons (pv 2) pa_nil)) pa_nil))))
      (pss_one (ps_ret (pe_disp (pps_cons pe_str (pv 1) (pps_cons pe_str pe_int (pps_cons pe_str pe_int (pps_cons pe_str (pe_op op_add pe_int (pe_callB call_len_seq (by rfl) T.b_len PySem.boot_len (pa_cons (pv 1) pa_nil))) (pps_cons pe_str pe_int pps_nil))))) (by rfl) (by rfl) (fun z => by cases z) (by decide))))), ?_⟩
  refine ⟨_, rfl, _, rfl, a, _, rfl, ha, fun p1 hp1 => ⟨p1, rfl, ⟨_, SqL.of upd_same⟩, fun D hD => ?_⟩⟩
  have g1 : Same H (upd H p1 (.lst (cutV (ns.map V.int) none (some 63)))) := Same.new hp1
  have ecut : ∃ ms : List Int, cutV (ns.map V.int) none (some 63) = ms.map V.int ∧ ms.length ≤ 63 := by
    refine ⟨(ns.drop (HT.sIx (ns.map V.int).length 0 none)).take (HT.sIx (ns.map V.int).length (ns.map V.int).length (some 63) - HT.sIx (ns.map V.int).length 0 none), ?_, ?_⟩
    · unfold cutV; rw [List.map_take, List.map_drop]
    · rw [List.length_take]
      have : HT.sIx (ns.map V.int).length (ns.map V.int).length (some 63) ≤ 63 := by
        show (if (63 : Int) < 0 then ((63 : Int) + ((ns.map V.int).length : Int)).toNat else min (63 : Int).toNat (ns.map V.int).length) ≤ 63
        rw [if_neg (by decide)]
        exact Nat.min_le_left _ _
      omega
  obtain ⟨ms, em, ml⟩ := ecut
  rw [em] at g1 hD ⊢
  have nD : H D = none := by
    cases e : H D with
    | none => rfl
    | some o => rw [g1.at_ e] at hD; cases hD
  refine lc_list (xs := ms.map V.int) (fun i H' => Same H H' ∧ H' p1 = some (.lst (ms.map V.int)) ∧ ∃ l : List Int, H' D = some (.lst (l.map V.int)) ∧ l.length = i) ⟨Same.then_ g1 hD, newAt upd_same hD, [], upd_same, rfl⟩ ?_ ?_ ?_
  · rintro i H' hi ⟨g, h1, h2⟩
    exact SqL.of h1
  · rintro i x H' hi ⟨g, h1, l, h2, hl⟩
    obtain ⟨m, hm, rfl⟩ := list_ints hi
    have hi2 := (List.getElem?_eq_some_iff.mp hm).1
    refine ⟨rfl, _, rfl, .inl ⟨_, rfl, _, rfl, _, h2, szlt (by rw [List.length_map]; omega), Same.mut g nD, ?_, l ++ [if m < 0 then -m else m], ?_, by rw [List.length_append, hl]; rfl⟩⟩
    · have : p1 ≠ D := by
        intro e
        subst e
        rw [upd_same] at hD
        cases hD
      rw [upd_ne this]; exact h1
    · rw [upd_same, List.map_append]; rfl
  · rintro H' ⟨g, h1, l, h2, hl⟩
    intro d hd
    have gd : Same H' (upd H' d (.dK [])) := Same.new hd
    refine ⟨_, rfl, _, rfl, D, _, rfl, .inl (SqL.of (gd.at_ h2)), _, _, rfl, rfl, upd_same, hkv (.ref D) (.int 0) (.int 0) (.int (977 + ((l.map V.int).length : Int))) (.int 0), rfl, by show 5 ≤ 15; decide, ?_⟩
    have em : mergeK [] (hkv (.ref D) (.int 0) (.int 0) (.int (977 + ((l.map V.int).length : Int))) (.int 0)) = hkv (.ref D) (.int 0) (.int 0) (.int (977 + ((l.map V.int).length : Int))) (.int 0) := by
      simp [mergeK, hkv, putK, n1, n2, n3, n4, n5, n6, n7, n8, n9, n10]
    rw [em]
    have nd : H d = none := by
      cases e : H d with
      | none => rfl
      | some o => rw [g.at_ e] at hd; cases hd
    refine q d D _ (Same.mut (g.trans gd) nd) ⟨l, 0, 0, _, 0, upd_same, ?_, by omega⟩
    have : D ≠ d := ne_of_none h2 hd
    rw [upd_ne this]; exact gd.at_ h2
theorem ok_ldeep (T : Facts w K mg) : OkF P w K mg base CX0 2 "_law_deep" ["_law_hand_here"] spLDeep := by
  have G__law_draw := ok_draw (P := P) (base := base) T
  refine T.d__law_deep.ok sc__law_deep bb__law_deep (fun vs H Q E h => ?_) (fun f cdv A outer s H vs Q E hr h => ?_)
  · obtain ⟨_, _, rfl, _⟩ := h; rfl
  obtain ⟨h, c, rfl, hh, q⟩ := h
  refine ⟨_, (pss_cons (ps_set (i := 1) sc__law_deep.nd rfl (Or.inl rfl) (pe_ix ix_list (pe_lst (pa_cons pe_non (pa_cons (pe_tup pa_nil) (pa_cons pe_str pa_nil)))) (pe_cal G__law_draw (hr.mono (by first | decide | omega)) (pa_cons (pv 0) (pa_cons pe_int pa_nil))) (fun _ _ => rfl)))
      (pss_cons (ps_for PassesOwn.never rfl (pi_range1 (by rfl) T.b_range (pa_cons (pe_op op_add pe_int (pe_cal G__law_draw (hr.mono (by first | decide | omega)) (pa_cons (pv 0) (pa_cons pe_int pa_nil)))) pa_nil)) (pg_name (i := 2) sc__law_deep.nd rfl (Or.inl rfl)) (pss_one (ps_set (i := 1) sc__law_deep.nd rfl (Or.inl rfl) (pe_ix ix_list (pe_lst (pa_cons (pe_lst (pa_cons (pv 1) pa_nil)) (pa_cons (pe_tup (pa_cons (pv 1) pa_nil)) (pa_cons (pe_disp (pps_cons pe_int (pv 1) pps_nil) (by rfl) (by rfl) (fun z => by cases z) (by decide)) pa_nil)))) (pe_cal G__law_draw (hr.mono (by first | decide | omega)) (pa_cons (pv 0) (pa_cons pe_int pa_nil))) (fun _ _ => rfl)))))
      (pss_one (ps_ret (pv 1))))), ?_⟩
  refine ⟨(by show 0 ≤ sizeLine; decide), fun t1 ht1 => ⟨(by show 3 ≤ sizeLine; decide), fun l2 hl2 => ?_⟩⟩
  have hx2 := ((Hx.refl hh).new (o := .tup []) ht1).new (o := .lst [V.non, V.ref t1, V.str "x"]) hl2
  refine ⟨_, rfl, h, c, 3, rfl, hx2.h1, by omega, by omega, fun r H3 r0 r1 hx3 => ?_⟩
  have hx13 := hx2.trans hx3
  have et := hx3.t (newAt (u := .lst [V.non, V.ref t1, V.str "x"]) (upd_same (H := H) (a := t1) (o := .tup [])) hl2)
  have hget : ∃ v t, [V.non, V.ref t1, V.str "x"][r.toNat]? = some v ∧ KTy H3 v t ∧ t ≠ "int" ∧ t ≠ "bool" := by
    have : r.toNat = 0 ∨ r.toNat = 1 ∨ r.toNat = 2 := by omega
    rcases this with e | e | e <;> rw [e]
    · exact ⟨_, _, rfl, .non, by decide, by decide⟩
    · exact ⟨_, _, rfl, .tup et, by decide, by decide⟩
    · exact ⟨_, _, rfl, .str _, by decide, by decide⟩
  obtain ⟨v, t, ev, hk, k1, k2⟩ := hget
  refine ⟨_, _, _, _, rfl, rfl, SqL.of (hx3.l upd_same), at_ix (i := r.toNat) (by omega) ev, ?_⟩
  refine ⟨_, rfl, h, c, 8, rfl, hx13.h1, by omega, by omega, fun r2 H4 r20 r21 hx4 => ⟨_, _, rfl, rfl, _, rfl, by omega, by omega, ?_⟩⟩
  have kmono : ∀ {H H' : Hp} {v : V} {t : String}, Hx h c H H' → KTy H v t → ∃ t', KTy H' v t' ∧ (t ≠ "int" → t' ≠ "int") ∧ (t ≠ "bool" → t' ≠ "bool") := by
    intro H H' v t hx hk
    cases hk with
    | non => exact ⟨_, .non, id, id⟩
    | bl b => exact ⟨_, .bl b, id, id⟩
    | int b => exact ⟨_, .int b, id, id⟩
    | str b => exact ⟨_, .str b, id, id⟩
    | lst e => exact ⟨_, .lst (hx.l e), id, id⟩
    | tup e => exact ⟨_, .tup (hx.t e), id, id⟩
    | @dK a kvs e =>
      by_cases z : a = h
      · subst z
        obtain ⟨kvs', e'⟩ := hx.h1.dk
        exact ⟨_, .dK e', id, id⟩
      · exact ⟨_, .dK (hx.e _ _ e z), id, id⟩
  obtain ⟨t', hk', k1', k2'⟩ := kmono hx4 hk
  refine for_range (n := ((14 : Int) + r2).toNat) (fun i σ H' => (∃ x2 v t, σ = [some (.ref h), some v, x2] ∧ KTy H' v t ∧ t ≠ "int" ∧ t ≠ "bool") ∧ Hx h c H H')
    ⟨⟨_, v, t', rfl, hk', k1' k1, k2' k2⟩, hx13.trans hx4⟩ ?_ ?_
  · rintro i σ H' hi ⟨⟨x2, v, t, rfl, hk, k1, k2⟩, hx⟩
    refine ⟨_, rfl, (by show 1 ≤ sizeLine; decide), fun la hla => ⟨_, rfl, (by show 1 ≤ sizeLine; decide), fun tb htb => ?_⟩⟩
    intro d hd
    refine ⟨_, rfl, upd_same, [(Sum.inl 0, v)], rfl, by show 1 ≤ 15; decide, (by show 3 ≤ sizeLine; decide), fun le hle => ?_⟩
    have em : mergeK [] [((Sum.inl 0 : Key), v)] = [((Sum.inl 0 : Key), v)] := rfl
    have hA := (Hx.refl hx.h1).new (o := .lst [v]) hla
    have hB := hA.new (o := .tup [v]) htb
    have hC := hB.new (o := .dK []) hd
    have hD' := hC.mut (p := d) (o := .dK (mergeK [] [((Sum.inl 0 : Key), v)])) (hB.free hd)
    have hE := hD'.new (o := .lst [V.ref la, V.ref tb, V.ref d]) hle
    refine ⟨_, rfl, h, c, 3, rfl, hE.h1, by omega, by omega, fun r H5 r0 r1 hx5 => ?_⟩
    have nd : d ≠ h := by
      intro e
      subst e
      obtain ⟨kvs, ek⟩ := hB.h1.dk
      rw [ek] at hd
      cases hd
    have el : upd (upd (upd (upd (upd H' la (.lst [v])) tb (.tup [v])) d (.dK [])) d (.dK (mergeK [] [((Sum.inl 0 : Key), v)]))) le (.lst [V.ref la, V.ref tb, V.ref d]) la = some (.lst [v]) := by
      have a1 := newAt (u := .tup [v]) (upd_same (H := H') (a := la) (o := .lst [v])) htb
      have a2 := newAt (u := .dK []) a1 hd
      have n : la ≠ d := ne_of_none a1 hd
      refine newAt ?_ hle
      rw [upd_ne n]; exact a2
    have etb : upd (upd (upd (upd (upd H' la (.lst [v])) tb (.tup [v])) d (.dK [])) d (.dK (mergeK [] [((Sum.inl 0 : Key), v)]))) le (.lst [V.ref la, V.ref tb, V.ref d]) tb = some (.tup [v]) := by
      have a1 := upd_same (H := upd H' la (.lst [v])) (a := tb) (o := .tup [v])
      have a2 := newAt (u := .dK []) a1 hd
      have n : tb ≠ d := ne_of_none a1 hd
      refine newAt ?_ hle
      rw [upd_ne n]; exact a2
    have ed : upd (upd (upd (upd (upd H' la (.lst [v])) tb (.tup [v])) d (.dK [])) d (.dK (mergeK [] [((Sum.inl 0 : Key), v)]))) le (.lst [V.ref la, V.ref tb, V.ref d]) d = some (.dK (mergeK [] [((Sum.inl 0 : Key), v)])) := newAt upd_same hle
    have hget : ∃ v t, [V.ref la, V.ref tb, V.ref d][r.toNat]? = some v ∧ KTy H5 v t ∧ t ≠ "int" ∧ t ≠ "bool" := by
      have : r.toNat = 0 ∨ r.toNat = 1 ∨ r.toNat = 2 := by omega
      rcases this with e | e | e <;> rw [e]
      · exact ⟨_, _, rfl, .lst (hx5.l el), by decide, by decide⟩
      · exact ⟨_, _, rfl, .tup (hx5.t etb), by decide, by decide⟩
      · exact ⟨_, _, rfl, .dK (hx5.e _ _ ed nd), by decide, by decide⟩
    obtain ⟨v', t', ev', hk', k1', k2'⟩ := hget
    refine ⟨_, _, _, _, rfl, rfl, SqL.of (hx5.l upd_same), at_ix (i := r.toNat) (by omega) ev', ?_⟩
    exact ⟨⟨_, v', t', rfl, hk', k1', k2'⟩, (hx.trans hE).trans hx5⟩
  · rintro σ H' ⟨⟨x2, v, t, rfl, hk, k1, k2⟩, hx⟩
    exact ⟨_, rfl, q v t H' hx hk k1 k2⟩
end
end K34

set_option Elab.async false
set_option linter.all false
set_option maxRecDepth 100000
set_option maxHeartbeats 4000000
/-! D13: the law's code; the boxes laid first. -/
namespace K34
open PySem PySem.Spec PyProof.Rows L2
open He (ga ma)
theorem set_mid {a b : List V} {x y : V} {n : Nat} (e : n = a.length) : (a ++ x :: b).set n y = a ++ y :: b := by
  subst e
  rw [List.set_append_right _ _ (Nat.le_refl _), Nat.sub_self]
  rfl
def spFlat (n : Nat) : Sp := fun vs H Q _ => ∃ (q cd : Addr) (b : List Stm) (xs : List V), vs = [.ref q, .ref cd] ∧ BdA H q b ∧ dpB b < n ∧ H cd = some (.lst xs) ∧ xs.length + 2 * szB b ≤ 10000 ∧
  ∀ H' ws, Ext cd H H' → H' cd = some (.lst (xs ++ ws)) → All2 (ItmA H') ws (flatB xs.length b) → Q .non H'
def spCodes : Sp := fun vs H Q _ => ∃ (p : Addr) (cells : Nat) (rs : List (List Stm)), vs = [.ref p] ∧ RtsA H p rs ∧ OkR cells rs ∧ ∀ l H', Same H H' → CdsA H' l rs → Q (.ref l) H'
def spLaid : Sp := fun vs H Q _ => ∃ (h c sz rp : Addr) (cells : Nat) (zs : List (Int × Int)) (rs : List (List Stm)), vs = [.ref h, .int (cells : Int), .ref sz, .ref rp] ∧ Hand c H h ∧ 1 ≤ cells ∧ cells ≤ 5 ∧ SizA H sz zs ∧ 1 ≤ zs.length ∧ zs.length ≤ 4 ∧ (∀ z ∈ zs, 1 ≤ z.1 ∧ z.1 ≤ 1000 ∧ 1 ≤ z.2 ∧ z.2 ≤ 1000) ∧ RtsA H rp rs ∧ OkR cells rs ∧ szB (rs.getD 0 []) ≤ 50 ∧
  ∀ p rs' H', Hx h c H H' → RtsA H' p rs' → OkR cells rs' → Q (.ref p) H'
theorem ItmA.ms {H H' : Hp} {vs : List V} {is : List Itm} (h : All2 (ItmA H) vs is) (k : Tups H H') : All2 (ItmA H') vs is := h.mono fun _ _ r => r.mono k
theorem dec_str_if {s : Stm} : decide (V.str (wordS s) = V.str "if") = (match s with | .ite _ _ _ => true | _ => false) := dec_if
section
variable {P : Program} {w : World} {K : PySem.W.Frag} {mg : Str → Option Value} {base : Heap}
theorem ok_lflat1 (T : Facts w K mg) (n : Nat) (G__law_flat : OkF P w K mg base CX0 (1 + n) "_law_flat" ["_law_body_here", "_law_code"] (spFlat n)) : OkF P w K mg base CX0 (1 + n + 1) "_law_flat" ["_law_body_here", "_law_code"] (spFlat (n + 1)) := by
  refine T.d__law_flat.ok sc__law_flat bb__law_flat (fun vs H Q E h => ?_) (fun f cdv A outer s H vs Q E hr h => ?_)
  · obtain ⟨_, _, _, _, rfl, _⟩ := h; rfl
  obtain ⟨p, cd, b, xs, rfl, hb, hd, hcd, hsz, q⟩ := h
  obtain ⟨vs, hp, hv⟩ := hb.all
  have npc : p ≠ cd := ne_of hp hcd (by intro z; cases z)
  refine ⟨_, (pss_one (ps_for PassesOwn.never rfl (pi_tup (pv 0)) (pg_name (i := 2) sc__law_flat.nd rfl (Or.inl rfl)) (pss_cons (ps_set (i := 3) sc__law_flat.nd rfl (Or.inl rfl) (pe_callB call_len_seq (by rfl) T.b_len PySem.boot_len (pa_cons (pv 1) pa_nil)))
      (pss_one (ps_if (pt_cmpR op_eq (pe_ix ix_tup (pv 2) pe_int (fun _ _ => rfl)) pe_str (nomark _)) (pss_cons (ps_expr (pe_bm PySem.F.plainAttrs_list PySem.F.slot_list_append PySem.F.type_list_append mt_append (pv 1) (pa_cons pe_non pa_nil)))
      (pss_cons (ps_expr (pe_cal G__law_flat (hr.mono (by first | decide | omega)) (pa_cons (pe_ix ix_tup (pv 2) pe_int (fun _ _ => rfl)) (pa_cons (pv 1) pa_nil))))
      (pss_cons (ps_set (i := 4) sc__law_flat.nd rfl (Or.inl rfl) (pe_callB call_len_seq (by rfl) T.b_len PySem.boot_len (pa_cons (pv 1) pa_nil)))
      (pss_cons (ps_expr (pe_bm PySem.F.plainAttrs_list PySem.F.slot_list_append PySem.F.type_list_append mt_append (pv 1) (pa_cons pe_non pa_nil)))
      (pss_cons (ps_asg (pe_tup (pa_cons pe_str (pa_cons (pe_ix ix_tup (pv 2) pe_int (fun _ _ => rfl)) (pa_cons (pe_callB call_len_seq (by rfl) T.b_len PySem.boot_len (pa_cons (pv 1) pa_nil)) pa_nil)))) (pg_sub (pv 1) (pv 3) set_list))
      (pss_cons (ps_expr (pe_cal G__law_flat (hr.mono (by first | decide | omega)) (pa_cons (pe_ix ix_tup (pv 2) pe_int (fun _ _ => rfl)) (pa_cons (pv 1) pa_nil))))
      (pss_one (ps_asg (pe_tup (pa_cons pe_str (pa_cons (pe_callB call_len_seq (by rfl) T.b_len PySem.boot_len (pa_cons (pv 1) pa_nil)) pa_nil))) (pg_sub (pv 1) (pv 4) set_list))))))))) (pss_one (ps_if (pt_cmpR op_eq (pe_ix ix_tup (pv 2) pe_int (fun _ _ => rfl)) pe_str (nomark _)) (pss_cons (ps_expr (pe_bm PySem.F.plainAttrs_list PySem.F.slot_list_append PySem.F.type_list_append mt_append (pv 1) (pa_cons pe_non pa_nil)))
      (pss_cons (ps_expr (pe_cal G__law_flat (hr.mono (by first | decide | omega)) (pa_cons (pe_ix ix_tup (pv 2) pe_int (fun _ _ => rfl)) (pa_cons (pv 1) pa_nil))))
      (pss_cons (ps_expr (pe_bm PySem.F.plainAttrs_list PySem.F.slot_list_append PySem.F.type_list_append mt_append (pv 1) (pa_cons (pe_tup (pa_cons pe_str (pa_cons (pv 3) pa_nil))) pa_nil)))
      (pss_one (ps_asg (pe_tup (pa_cons pe_str (pa_cons (pe_ix ix_tup (pv 2) pe_int (fun _ _ => rfl)) (pa_cons (pe_callB call_len_seq (by rfl) T.b_len PySem.boot_len (pa_cons (pv 1) pa_nil)) pa_nil)))) (pg_sub (pv 1) (pv 3) set_list)))))) (pss_one (ps_expr (pe_bm PySem.F.plainAttrs_list PySem.F.slot_list_append PySem.F.type_list_append mt_append (pv 1) (pa_cons (pe_tup (pa_cons pe_str (pa_cons (pv 2) pa_nil))) pa_nil))))))))))), ?_⟩
  refine ⟨_, rfl, p, rfl, ⟨vs, SqT.of hp⟩, ?_⟩
  refine for_tup (xs := vs) (fun i σ H' => (∃ x y z, σ = [some (.ref p), some (.ref cd), x, y, z]) ∧ Ext cd H H' ∧ ∃ ws, H' cd = some (.lst (xs ++ ws)) ∧ All2 (ItmA H') ws (flatB xs.length (b.take i))) ⟨⟨none, none, none, rfl⟩, Ext.refl, [], by rw [List.append_nil]; exact hcd, by rw [List.take_zero, flatB]; exact .nil⟩ ?_ ?_ ?_
  · rintro i σ H' hi ⟨_, g, _⟩
    exact SqT.of (g _ _ hp npc)
  · rintro i v σ H' hi ⟨⟨x, y, z, rfl⟩, g, ws, ecd, hws⟩
    obtain ⟨st, hs, ha⟩ := hv.get' hi
    have hm := List.mem_of_getElem? hs
    have hdp := dpB_mem hm
    have ha' := StA.mono (g.kpL hcd).t _ _ ha
    obtain ⟨a0, xs0, rfl, ha0⟩ := ha'.head
    have wl := hws.len
    -- the piece of this statement
    have e1 : flatB xs.length (b.take (i + 1)) = flatB xs.length (b.take i) ++ flatS (xs ++ ws).length st := by
      rw [List.take_add_one, hs, flatB_append, List.length_append, wl]
      show _ ++ flatB _ [st] = _
      rw [flatB, flatB, List.append_nil]
    have hsz1 : szB (b.take i) + szS st ≤ szB b := by
      have h1 := szB_append (b.take (i + 1)) (b.drop (i + 1))
      rw [List.take_append_drop, List.take_add_one, hs, szB_append] at h1
      have h2 : szB (some st).toList = szS st := by show szB [st] = _; rw [szB, szB, Nat.add_zero]
      omega
    have hwl2 : ws.length ≤ 2 * szB (b.take i) := by rw [wl]; exact flatB_le _ _
    have hal : (xs ++ ws).length = xs.length + ws.length := List.length_append
    have fin : ∀ (H2 : Hp) (ws2 : List V) (x y z : Option V), Ext cd H' H2 → H2 cd = some (.lst (xs ++ ws ++ ws2)) → All2 (ItmA H2) ws2 (flatS (xs ++ ws).length st) → (∃ x' y' z', [some (V.ref p), some (.ref cd), x, y, z] = [some (.ref p), some (.ref cd), x', y', z']) ∧ Ext cd H H2 ∧ ∃ ws, H2 cd = some (.lst (xs ++ ws)) ∧ All2 (ItmA H2) ws (flatB xs.length (b.take (i + 1))) := by
      intro H2 ws2 x y z g2 e2 a2
      refine ⟨⟨_, _, _, rfl⟩, g.trans g2, ws ++ ws2, by rw [← List.append_assoc]; exact e2, ?_⟩
      rw [e1]
      exact (ItmA.ms hws (g2.kpL ecd).t).append a2
    generalize hA : xs ++ ws = as at *
    refine ⟨_, rfl, cd, _, rfl, .inl (SqL.of ecd), ?_⟩
    refine ⟨_, rfl, _, _, _, _, rfl, rfl, SqT.of (ha0), atI_nat (j := 0) rfl, rfl, _, rfl, ?_⟩
    cases st with
    | set cc zz =>
      refine itF (by rw [dec_if]) ?_
      refine ⟨_, rfl, _, _, _, _, rfl, rfl, SqT.of (ha0), atI_nat (j := 0) rfl, rfl, _, rfl, itF (by rw [dec_while]) ?_⟩
      refine ⟨_, rfl, .inl ⟨rfl, _, SqL.of ecd⟩, _, rfl, (by show 2 ≤ sizeLine; decide), fun t ht => ?_⟩
      have g2 : Same H' (upd H' t (.tup [V.str "do", V.ref a0])) := Same.new ht
      refine ⟨cd, _, _, rfl, rfl, g2.at_ ecd, szlt (by omega), ?_⟩
      have gE : Ext cd (upd H' t (.tup [V.str "do", V.ref a0])) (upd (upd H' t (.tup [V.str "do", V.ref a0])) cd (.lst (as ++ [.ref t]))) := Ext.refl.upd
      refine fin _ [.ref t] _ _ _ ((Same.ext g2).trans gE) upd_same ?_
      rw [flatS]
      exact .cons ⟨t, .ref a0, rfl, (gE.kpL (g2.at_ ecd)).t _ _ upd_same, StA.mono (Tups.trans (Same.tups g2) (gE.kpL (g2.at_ ecd)).t) _ _ ha'⟩ .nil
    | put x1 y1 z1 =>
      refine itF (by rw [dec_if]) ?_
      refine ⟨_, rfl, _, _, _, _, rfl, rfl, SqT.of (ha0), atI_nat (j := 0) rfl, rfl, _, rfl, itF (by rw [dec_while]) ?_⟩
      refine ⟨_, rfl, .inl ⟨rfl, _, SqL.of ecd⟩, _, rfl, (by show 2 ≤ sizeLine; decide), fun t ht => ?_⟩
      have g2 : Same H' (upd H' t (.tup [V.str "do", V.ref a0])) := Same.new ht
      refine ⟨cd, _, _, rfl, rfl, g2.at_ ecd, szlt (by omega), ?_⟩
      have gE : Ext cd (upd H' t (.tup [V.str "do", V.ref a0])) (upd (upd H' t (.tup [V.str "do", V.ref a0])) cd (.lst (as ++ [.ref t]))) := Ext.refl.upd
      refine fin _ [.ref t] _ _ _ ((Same.ext g2).trans gE) upd_same ?_
      rw [flatS]
      exact .cons ⟨t, .ref a0, rfl, (gE.kpL (g2.at_ ecd)).t _ _ upd_same, StA.mono (Tups.trans (Same.tups g2) (gE.kpL (g2.at_ ecd)).t) _ _ ha'⟩ .nil
    | ask cc wd zz =>
      refine itF (by rw [dec_if]) ?_
      refine ⟨_, rfl, _, _, _, _, rfl, rfl, SqT.of (ha0), atI_nat (j := 0) rfl, rfl, _, rfl, itF (by rw [dec_while]) ?_⟩
      refine ⟨_, rfl, .inl ⟨rfl, _, SqL.of ecd⟩, _, rfl, (by show 2 ≤ sizeLine; decide), fun t ht => ?_⟩
      have g2 : Same H' (upd H' t (.tup [V.str "do", V.ref a0])) := Same.new ht
      refine ⟨cd, _, _, rfl, rfl, g2.at_ ecd, szlt (by omega), ?_⟩
      have gE : Ext cd (upd H' t (.tup [V.str "do", V.ref a0])) (upd (upd H' t (.tup [V.str "do", V.ref a0])) cd (.lst (as ++ [.ref t]))) := Ext.refl.upd
      refine fin _ [.ref t] _ _ _ ((Same.ext g2).trans gE) upd_same ?_
      rw [flatS]
      exact .cons ⟨t, .ref a0, rfl, (gE.kpL (g2.at_ ecd)).t _ _ upd_same, StA.mono (Tups.trans (Same.tups g2) (gE.kpL (g2.at_ ecd)).t) _ _ ha'⟩ .nil
    | call r =>
      refine itF (by rw [dec_if]) ?_
      refine ⟨_, rfl, _, _, _, _, rfl, rfl, SqT.of (ha0), atI_nat (j := 0) rfl, rfl, _, rfl, itF (by rw [dec_while]) ?_⟩
      refine ⟨_, rfl, .inl ⟨rfl, _, SqL.of ecd⟩, _, rfl, (by show 2 ≤ sizeLine; decide), fun t ht => ?_⟩
      have g2 : Same H' (upd H' t (.tup [V.str "do", V.ref a0])) := Same.new ht
      refine ⟨cd, _, _, rfl, rfl, g2.at_ ecd, szlt (by omega), ?_⟩
      have gE : Ext cd (upd H' t (.tup [V.str "do", V.ref a0])) (upd (upd H' t (.tup [V.str "do", V.ref a0])) cd (.lst (as ++ [.ref t]))) := Ext.refl.upd
      refine fin _ [.ref t] _ _ _ ((Same.ext g2).trans gE) upd_same ?_
      rw [flatS]
      exact .cons ⟨t, .ref a0, rfl, (gE.kpL (g2.at_ ecd)).t _ _ upd_same, StA.mono (Tups.trans (Same.tups g2) (gE.kpL (g2.at_ ecd)).t) _ _ ha'⟩ .nil
    | ite t1 y1 n1 =>
      rw [StA] at ha'
      obtain ⟨a', p0, q1, q2, eq, hst, ht, hy, hn⟩ := ha'
      cases eq
      rw [szS] at hsz1
      rw [dpS] at hdp
      have hm1 := Nat.le_max_left (dpB y1) (dpB n1)
      have hm2 := Nat.le_max_right (dpB y1) (dpB n1)
      refine itT (by rw [dec_if]) ?_
      -- append(None)
      refine ⟨_, rfl, .inl ⟨rfl, _, SqL.of ecd⟩, cd, _, _, rfl, rfl, ecd, szlt (by omega), ?_⟩
      have gA : Ext cd H' (upd H' cd (.lst (as ++ [V.non]))) := Ext.refl.upd
      have kA := (gA.kpL ecd).t
      -- the first body
      refine ⟨_, rfl, _, _, _, _, rfl, rfl, SqT.of (kA _ _ hst), atI_nat (j := 2) rfl, _, rfl, q1, cd, y1, _, rfl, BdA.mono hy kA, by omega, upd_same, by rw [List.length_append]; show as.length + 1 + _ ≤ _; omega, fun H2 w2 g2 e2 a2 => ?_⟩
      have k2 := (g2.kpL upd_same).t
      have kA2 := Tups.trans kA k2
      have e2' : H2 cd = some (.lst (as ++ [V.non] ++ w2)) := e2
      have l2 := a2.len
      have l2b := flatB_le y1 (as ++ [V.non]).length
      rw [← l2] at l2b
      -- over, append(None)
      refine ⟨_, rfl, cd, _, rfl, .inl (SqL.of e2'), ?_⟩
      refine ⟨_, rfl, .inl ⟨rfl, _, SqL.of e2'⟩, cd, _, _, rfl, rfl, e2', szlt (by rw [List.length_append, List.length_append]; show as.length + 1 + w2.length < _; omega), ?_⟩
      have g3 : Ext cd H2 (upd H2 cd (.lst (as ++ [V.non] ++ w2 ++ [V.non]))) := Ext.refl.upd
      have k3 := (g3.kpL e2').t
      have kA3 := Tups.trans kA2 k3
      -- code[at] = ('test', ..)
      refine ⟨_, rfl, _, _, _, _, rfl, rfl, SqT.of (kA3 _ _ hst), atI_nat (j := 1) rfl, _, rfl, cd, _, rfl, .inl (SqL.of upd_same), (by show 3 ≤ sizeLine; decide), fun t4 ht4 => ?_⟩
      have e4 := newAt (u := .tup [V.str "test", p0, V.int ((as ++ [V.non] ++ w2 ++ [V.non]).length : Int)]) (upd_same (H := H2) (a := cd) (o := .lst (as ++ [V.non] ++ w2 ++ [V.non]))) ht4
      have g4 : Same _ (upd (upd H2 cd (.lst (as ++ [V.non] ++ w2 ++ [V.non]))) t4 (.tup [V.str "test", p0, V.int ((as ++ [V.non] ++ w2 ++ [V.non]).length : Int)])) := Same.new ht4
      refine ⟨_, rfl, _, rfl, cd, _, _, as.length, rfl, rfl, e4, ixN_nat rfl (by rw [List.length_append, List.length_append, List.length_append]; show as.length < as.length + 1 + w2.length + 1; omega), ?_⟩
      have es : (as ++ [V.non] ++ w2 ++ [V.non]).set as.length (.ref t4) = as ++ [V.ref t4] ++ w2 ++ [V.non] := by
        have := set_mid (a := as) (b := w2 ++ [V.non]) (x := V.non) (y := V.ref t4) rfl
        simp only [List.append_assoc, List.cons_append, List.nil_append] at this ⊢
        exact this
      rw [es]
      have g5 : Ext cd _ (upd (upd (upd H2 cd (.lst (as ++ [V.non] ++ w2 ++ [V.non]))) t4 (.tup [V.str "test", p0, V.int ((as ++ [V.non] ++ w2 ++ [V.non]).length : Int)])) cd (.lst (as ++ [V.ref t4] ++ w2 ++ [V.non]))) := Ext.refl.upd
      have k5 := (g5.kpL e4).t
      have k45 := Tups.trans (Same.tups g4) k5
      have kA5 := Tups.trans kA3 k45
      -- the second body
      have ll : (as ++ [V.ref t4] ++ w2 ++ [V.non]).length = as.length + 1 + w2.length + 1 := by rw [List.length_append, List.length_append, List.length_append]; rfl
      refine ⟨_, rfl, _, _, _, _, rfl, rfl, SqT.of (kA5 _ _ hst), atI_nat (j := 3) rfl, _, rfl, q2, cd, n1, _, rfl, BdA.mono hn kA5, by omega, upd_same, by rw [ll]; omega, fun H6 w6 g6 e6 a6 => ?_⟩
      have k6 := (g6.kpL upd_same).t
      have kA6 := Tups.trans kA5 k6
      have l6 := a6.len
      have l6b := flatB_le n1 (as ++ [V.ref t4] ++ w2 ++ [V.non]).length
      rw [← l6] at l6b
      -- code[over] = ('go', ..)
      refine ⟨_, rfl, cd, _, rfl, .inl (SqL.of e6), (by show 2 ≤ sizeLine; decide), fun t7 ht7 => ?_⟩
      have e7 := newAt (u := .tup [V.str "go", V.int ((as ++ [V.ref t4] ++ w2 ++ [V.non] ++ w6).length : Int)]) e6 ht7
      have g7 : Same H6 (upd H6 t7 (.tup [V.str "go", V.int ((as ++ [V.ref t4] ++ w2 ++ [V.non] ++ w6).length : Int)])) := Same.new ht7
      have lo : (as ++ [V.non] ++ w2).length = as.length + 1 + w2.length := by rw [List.length_append, List.length_append]; rfl
      refine ⟨_, rfl, _, rfl, cd, _, _, (as ++ [V.non] ++ w2).length, rfl, rfl, e7, ixN_nat rfl (by rw [lo, List.length_append, ll]; omega), ?_⟩
      have es2 : (as ++ [V.ref t4] ++ w2 ++ [V.non] ++ w6).set (as ++ [V.non] ++ w2).length (.ref t7) = as ++ (V.ref t4 :: (w2 ++ V.ref t7 :: w6)) := by
        have := set_mid (a := as ++ [V.ref t4] ++ w2) (b := w6) (x := V.non) (y := V.ref t7) (n := (as ++ [V.non] ++ w2).length) (by rw [lo, List.length_append, List.length_append]; rfl)
        simp only [List.append_assoc, List.cons_append, List.nil_append] at this ⊢
        exact this
      rw [es2]
      have g8 : Ext cd _ (upd (upd H6 t7 (.tup [V.str "go", V.int ((as ++ [V.ref t4] ++ w2 ++ [V.non] ++ w6).length : Int)])) cd (.lst (as ++ (V.ref t4 :: (w2 ++ V.ref t7 :: w6))))) := Ext.refl.upd
      have k8 := (g8.kpL e7).t
      have k78 := Tups.trans (Same.tups g7) k8
      refine fin _ (V.ref t4 :: (w2 ++ V.ref t7 :: w6)) _ _ _ (gA.trans (g2.trans (g3.trans ((Same.ext g4).trans (g5.trans (g6.trans ((Same.ext g7).trans g8))))))) upd_same ?_
      rw [flatS]
      have la : (as ++ [V.non]).length = as.length + 1 := by rw [List.length_append]; rfl
      rw [la] at a2 l2
      have ll' : (as ++ [V.ref t4] ++ w2 ++ [V.non]).length = as.length + 1 + (flatB (as.length + 1) y1).length + 1 := by rw [ll, l2]
      rw [ll'] at a6 l6
      have k68 := Tups.trans k6 k78
      refine .cons ⟨t4, p0, rfl, ?_, ht.mono (Tups.trans kA6 k78)⟩ (All2.append (ItmA.ms a2 (Tups.trans k3 (Tups.trans k45 k68))) (.cons ⟨t7, rfl, ?_⟩ (ItmA.ms a6 k78)))
      · have h1 := Tups.trans k5 k68 _ _ (upd_same (H := upd H2 cd (.lst (as ++ [V.non] ++ w2 ++ [V.non]))) (a := t4) (o := .tup [V.str "test", p0, V.int ((as ++ [V.non] ++ w2 ++ [V.non]).length : Int)]))
        rw [h1]
        have : (as ++ [V.non] ++ w2 ++ [V.non]).length = as.length + 1 + (flatB (as.length + 1) y1).length + 1 := by rw [List.length_append, lo, l2]; rfl
        rw [this]
      · have h1 := k8 _ _ (upd_same (H := H6) (a := t7) (o := .tup [V.str "go", V.int ((as ++ [V.ref t4] ++ w2 ++ [V.non] ++ w6).length : Int)]))
        rw [h1, List.length_append, ll', l6]
    | whl t1 y1 =>
      rw [StA] at ha'
      obtain ⟨a', p0, q1, eq, hst, ht, hy⟩ := ha'
      cases eq
      rw [szS] at hsz1
      rw [dpS] at hdp
      refine itF (by rw [dec_if]) ?_
      refine ⟨_, rfl, _, _, _, _, rfl, rfl, SqT.of (hst), atI_nat (j := 0) rfl, rfl, _, rfl, itT (by first | rw [dec_while] | decide +kernel) ?_⟩
      refine ⟨_, rfl, .inl ⟨rfl, _, SqL.of ecd⟩, cd, _, _, rfl, rfl, ecd, szlt (by omega), ?_⟩
      have gA : Ext cd H' (upd H' cd (.lst (as ++ [V.non]))) := Ext.refl.upd
      have kA := (gA.kpL ecd).t
      refine ⟨_, rfl, _, _, _, _, rfl, rfl, SqT.of (kA _ _ hst), atI_nat (j := 2) rfl, _, rfl, q1, cd, y1, _, rfl, BdA.mono hy kA, by omega, upd_same, by rw [List.length_append]; show as.length + 1 + _ ≤ _; omega, fun H2 w2 g2 e2 a2 => ?_⟩
      have k2 := (g2.kpL upd_same).t
      have kA2 := Tups.trans kA k2
      have e2' : H2 cd = some (.lst (as ++ [V.non] ++ w2)) := e2
      have l2 := a2.len
      have l2b := flatB_le y1 (as ++ [V.non]).length
      rw [← l2] at l2b
      have lo : (as ++ [V.non] ++ w2).length = as.length + 1 + w2.length := by rw [List.length_append, List.length_append]; rfl
      -- append(('go', at))
      refine ⟨_, rfl, .inl ⟨rfl, _, SqL.of e2'⟩, _, rfl, (by show 2 ≤ sizeLine; decide), fun t3 ht3 => ?_⟩
      have g3 : Same H2 (upd H2 t3 (.tup [V.str "go", V.int (as.length : Int)])) := Same.new ht3
      refine ⟨cd, _, _, rfl, rfl, g3.at_ e2', szlt (by rw [lo]; omega), ?_⟩
      have g4 : Ext cd _ (upd (upd H2 t3 (.tup [V.str "go", V.int (as.length : Int)])) cd (.lst (as ++ [V.non] ++ w2 ++ [V.ref t3]))) := Ext.refl.upd
      have k4 := (g4.kpL (g3.at_ e2')).t
      have k34 := Tups.trans (Same.tups g3) k4
      have kA4 := Tups.trans kA2 k34
      -- code[at] = ('test', ..)
      refine ⟨_, rfl, _, _, _, _, rfl, rfl, SqT.of (kA4 _ _ hst), atI_nat (j := 1) rfl, _, rfl, cd, _, rfl, .inl (SqL.of upd_same), (by show 3 ≤ sizeLine; decide), fun t5 ht5 => ?_⟩
      have e5 := newAt (u := .tup [V.str "test", p0, V.int ((as ++ [V.non] ++ w2 ++ [V.ref t3]).length : Int)]) (upd_same (H := upd H2 t3 (.tup [V.str "go", V.int (as.length : Int)])) (a := cd) (o := .lst (as ++ [V.non] ++ w2 ++ [V.ref t3]))) ht5
      have g5 : Same _ (upd (upd (upd H2 t3 (.tup [V.str "go", V.int (as.length : Int)])) cd (.lst (as ++ [V.non] ++ w2 ++ [V.ref t3]))) t5 (.tup [V.str "test", p0, V.int ((as ++ [V.non] ++ w2 ++ [V.ref t3]).length : Int)])) := Same.new ht5
      refine ⟨_, rfl, _, rfl, cd, _, _, as.length, rfl, rfl, e5, ixN_nat rfl (by rw [List.length_append, lo]; show as.length < as.length + 1 + w2.length + 1; omega), ?_⟩
      have es : (as ++ [V.non] ++ w2 ++ [V.ref t3]).set as.length (.ref t5) = as ++ (V.ref t5 :: (w2 ++ [V.ref t3])) := by
        have := set_mid (a := as) (b := w2 ++ [V.ref t3]) (x := V.non) (y := V.ref t5) rfl
        simp only [List.append_assoc, List.cons_append, List.nil_append] at this ⊢
        exact this
      rw [es]
      have g6 : Ext cd _ (upd (upd (upd (upd H2 t3 (.tup [V.str "go", V.int (as.length : Int)])) cd (.lst (as ++ [V.non] ++ w2 ++ [V.ref t3]))) t5 (.tup [V.str "test", p0, V.int ((as ++ [V.non] ++ w2 ++ [V.ref t3]).length : Int)])) cd (.lst (as ++ (V.ref t5 :: (w2 ++ [V.ref t3]))))) := Ext.refl.upd
      have k6 := (g6.kpL e5).t
      have k56 := Tups.trans (Same.tups g5) k6
      refine fin _ (V.ref t5 :: (w2 ++ [V.ref t3])) _ _ _ (gA.trans (g2.trans ((Same.ext g3).trans (g4.trans ((Same.ext g5).trans g6))))) upd_same ?_
      rw [flatS]
      have la : (as ++ [V.non]).length = as.length + 1 := by rw [List.length_append]; rfl
      rw [la] at a2 l2
      refine .cons ⟨t5, p0, rfl, ?_, ht.mono (Tups.trans kA4 k56)⟩ (All2.append (ItmA.ms a2 (Tups.trans k34 k56)) (.cons ⟨t3, rfl, ?_⟩ .nil))
      · have h1 := k6 _ _ (upd_same (H := upd (upd H2 t3 (.tup [V.str "go", V.int (as.length : Int)])) cd (.lst (as ++ [V.non] ++ w2 ++ [V.ref t3]))) (a := t5) (o := .tup [V.str "test", p0, V.int ((as ++ [V.non] ++ w2 ++ [V.ref t3]).length : Int)]))
        rw [h1]
        have : (as ++ [V.non] ++ w2 ++ [V.ref t3]).length = as.length + 1 + (flatB (as.length + 1) y1).length + 1 := by rw [List.length_append, lo, l2]; rfl
        rw [this]
      · exact Tups.trans k4 k56 _ _ upd_same
  · rintro σ H' ⟨⟨x, y, z, rfl⟩, g, ws, ecd, hws⟩
    rw [hv.len, List.take_length] at hws
    exact q H' ws g ecd hws
theorem ok_lflat (T : Facts w K mg) : ∀ n : Nat, OkF P w K mg base CX0 (1 + n) "_law_flat" ["_law_body_here", "_law_code"] (spFlat n)
  | 0 => T.d__law_flat.none (N := []) bb__law_flat fun vs H Q E h => by
    obtain ⟨_, _, _, _, _, _, hd, _⟩ := h
    omega
  | n + 1 => ok_lflat1 T n (ok_lflat T n)
end
end K34

set_option Elab.async false
set_option linter.all false
set_option maxRecDepth 100000
set_option maxHeartbeats 4000000
/-! D14: the codes; the boxes laid first. -/
namespace K34
open PySem PySem.Spec PyProof.Rows L2
open He (ga ma)
section
variable {P : Program} {w : World} {K : PySem.W.Frag} {mg : Str → Option Value} {base : Heap}
theorem ok_lcodes (T : Facts w K mg) : OkF P w K mg base CX0 7 "_law_codes" ["_law_routines_here"] spCodes := by
  have G__law_flat := ok_lflat (P := P) (base := base) T 5
  refine T.d__law_codes.ok sc__law_codes bb__law_codes (fun vs H Q E h => ?_) (fun f cdv A outer s H vs Q E hr h => ?_)
  · obtain ⟨_, _, _, rfl, _⟩ := h; rfl
  obtain ⟨p, cells, rs, rfl, ⟨vs, hp, hv⟩, R, q⟩ := h
  have n5 := R.n5
  have vl := hv.len
  refine ⟨_, (pss_cons (ps_set (i := 1) sc__law_codes.nd rfl (Or.inl rfl) (pe_lst pa_nil))
      (pss_cons (ps_for PassesOwn.never rfl (pi_tup (pv 0)) (pg_name (i := 2) sc__law_codes.nd rfl (Or.inl rfl)) (pss_cons (ps_set (i := 3) sc__law_codes.nd rfl (Or.inl rfl) (pe_lst pa_nil))
      (pss_cons (ps_expr (pe_cal G__law_flat (hr.mono (by first | decide | omega)) (pa_cons (pv 2) (pa_cons (pv 3) pa_nil))))
      (pss_cons (ps_expr (pe_bm PySem.F.plainAttrs_list PySem.F.slot_list_append PySem.F.type_list_append mt_append (pv 3) (pa_cons (pe_tup (pa_cons pe_str pa_nil)) pa_nil)))
      (pss_one (ps_expr (pe_bm PySem.F.plainAttrs_list PySem.F.slot_list_append PySem.F.type_list_append mt_append (pv 1) (pa_cons (pv 3) pa_nil))))))))
      (pss_one (ps_ret (pv 1))))), ?_⟩
  refine ⟨(by show 0 ≤ sizeLine; decide), fun l1 hl1 => ?_⟩
  refine ⟨_, rfl, p, rfl, ⟨vs, SqT.of (newAt hp hl1)⟩, ?_⟩
  refine for_tup (xs := vs) (fun i σ H' => (∃ x y, σ = [some (.ref p), some (.ref l1), x, y]) ∧ Same H H' ∧ ∃ cs, H' l1 = some (.lst cs) ∧ All2 (fun v b => ∃ q, v = .ref q ∧ q ≠ l1 ∧ CdA H' q (codeB b)) cs (rs.take i)) ⟨⟨none, none, rfl⟩, Same.new hl1, [], upd_same, by rw [List.take_zero]; exact .nil⟩ ?_ ?_ ?_
  · rintro i σ H' hi ⟨_, g, _⟩
    exact SqT.of (g.at_ hp)
  · rintro i v σ H' hi ⟨⟨x, y, rfl⟩, g, cs, el, hcs⟩
    obtain ⟨b, hb1, pb, rfl, hbd⟩ := hv.get' hi
    have hm := List.mem_of_getElem? hb1
    have hi2 := (List.getElem?_eq_some_iff.mp hi).1
    have cl : cs.length ≤ 5 := by rw [hcs.len, List.length_take]; omega
    have hs60 := R.sz b hm
    have hd4 := R.dp b hm
    refine ⟨(by show 0 ≤ sizeLine; decide), fun l2 hl2 => ?_⟩
    have g2 : Same H' (upd H' l2 (.lst [])) := Same.new hl2
    have n12 : l1 ≠ l2 := ne_of_none el hl2
    have nH : H l2 = none := by
      cases e : H l2 with
      | none => rfl
      | some o => rw [g.at_ e] at hl2; cases hl2
    refine ⟨_, rfl, _, rfl, pb, l2, b, [], rfl, hbd.mono (Same.tups (g.trans g2)), by omega, upd_same, by show 0 + 2 * szB b ≤ 10000; omega, fun H3 ws g3 e3 a3 => ?_⟩
    have e3' : H3 l2 = some (.lst ws) := e3
    have wl := a3.len
    have wl2 := flatB_le b ([] : List V).length
    rw [← wl] at wl2
    refine ⟨_, rfl, .inl ⟨rfl, _, SqL.of e3'⟩, (by show 1 ≤ sizeLine; decide), fun t4 ht4 => ?_⟩
    have g4 : Same H3 (upd H3 t4 (.tup [V.str "end"])) := Same.new ht4
    refine ⟨l2, _, _, rfl, rfl, g4.at_ e3', szlt (by omega), ?_⟩
    have g5 : Ext l2 (upd H3 t4 (.tup [V.str "end"])) (upd (upd H3 t4 (.tup [V.str "end"])) l2 (.lst (ws ++ [.ref t4]))) := Ext.refl.upd
    have k5 := (g5.kpL (g4.at_ e3')).t
    have el5 : upd (upd H3 t4 (.tup [V.str "end"])) l2 (.lst (ws ++ [.ref t4])) l1 = some (.lst cs) := by
      rw [upd_ne n12]; exact g4.at_ (g3 _ _ (g2.at_ el) n12)
    refine ⟨_, rfl, .inl ⟨rfl, _, SqL.of el5⟩, _, rfl, l1, _, _, rfl, rfl, el5, szlt (by omega), ?_⟩
    have g6 : Ext l1 (upd (upd H3 t4 (.tup [V.str "end"])) l2 (.lst (ws ++ [.ref t4]))) (upd (upd (upd H3 t4 (.tup [V.str "end"])) l2 (.lst (ws ++ [.ref t4]))) l1 (.lst (cs ++ [.ref l2]))) := Ext.refl.upd
    have k6 := (g6.kpL el5).t
    have gAll : Same H' (upd (upd H3 t4 (.tup [V.str "end"])) l2 (.lst (ws ++ [.ref t4]))) := Same.mut (Same.trans (Same.ext1 (Same.refl' (H := H')) hl2 (Ext.trans (Same.ext g2 |> fun (e : Ext l2 H' (upd H' l2 (.lst []))) => e) g3)) g4) hl2
    refine ⟨⟨_, _, rfl⟩, Same.mut (g.trans gAll) ?_, cs ++ [.ref l2], upd_same, ?_⟩
    · cases e : H l1 with
      | none => rfl
      | some o =>
        rw [e] at hl1; cases hl1
    · rw [List.take_add_one, hb1]
      refine All2.snoc (hcs.mono fun v b' ⟨q', e, n, ⟨vs', e2, a2⟩⟩ => ⟨q', e, n, vs', ?_, ItmA.ms a2 (Tups.trans (Same.tups gAll) k6)⟩) ⟨l2, rfl, Ne.symm n12, ws ++ [.ref t4], ?_, ?_⟩
      · rw [upd_ne n]; exact gAll.at_ e2
      · rw [upd_ne (Ne.symm n12)]; exact upd_same
      · unfold codeB
        exact (ItmA.ms a3 (Tups.trans (Same.tups g4) (Tups.trans k5 k6))).snoc ⟨t4, rfl, k6 _ _ (k5 _ _ upd_same)⟩
  · rintro σ H' ⟨⟨x, y, rfl⟩, g, cs, el, hcs⟩
    refine ⟨_, rfl, q l1 H' g ⟨cs, el, ?_⟩⟩
    rw [vl, List.take_length] at hcs
    exact hcs.mono fun v b ⟨q', e, n, r⟩ => ⟨q', e, r⟩
theorem ok_llaid (T : Facts w K mg) : OkF P w K mg base CX0 3 "_law_laid" ["_law_hand_here", "_law_cells", "_law_sizes_here", "_law_routines_here"] spLaid := by
  have G__law_draw := ok_draw (P := P) (base := base) T
  have G__law_any := ok_any (P := P) (base := base) T
  refine T.d__law_laid.ok sc__law_laid bb__law_laid (fun vs H Q E h => ?_) (fun f cdv A outer s H vs Q E hr h => ?_)
  · obtain ⟨_, _, _, _, _, _, _, rfl, _⟩ := h; rfl
  obtain ⟨h, c, sz', rp, cells, zs, rs, rfl, hh, c1, c5, hsz, z1, z4, hzb, hrt, R, hs50, q⟩ := h
  obtain ⟨zvs, hzp, zl, hzg⟩ := hsz.get
  have n1' := R.n1
  have n5 := R.n5
  refine ⟨_, (pss_cons (ps_set (i := 4) sc__law_laid.nd rfl (Or.inl rfl) (pe_lst pa_nil))
      (pss_cons (ps_set (i := 5) sc__law_laid.nd rfl (Or.inl rfl) (pe_cal G__law_any (hr.mono (by first | decide | omega)) (pa_cons (pv 0) (pa_cons (pe_lst (pa_cons pe_int (pa_cons pe_int (pa_cons pe_int (pa_cons pe_int (pa_cons (pe_un un_neg pe_int) (pa_cons pe_int pa_nil))))))) pa_nil))))
      (pss_cons (ps_set (i := 6) sc__law_laid.nd rfl (Or.inl rfl) (pe_op op_sub (pe_cal G__law_draw (hr.mono (by first | decide | omega)) (pa_cons (pv 0) (pa_cons pe_int pa_nil))) pe_int))
      (pss_cons (ps_set (i := 7) sc__law_laid.nd rfl (Or.inl rfl) (pe_cal G__law_draw (hr.mono (by first | decide | omega)) (pa_cons (pv 0) (pa_cons (pe_op op_mul pe_int (pe_callB call_len_seq (by rfl) T.b_len PySem.boot_len (pa_cons (pv 2) pa_nil))) pa_nil))))
      (pss_cons (ps_for PassesOwn.never rfl (pi_range1 (by rfl) T.b_range (pa_cons (pe_callB call_len_seq (by rfl) T.b_len PySem.boot_len (pa_cons (pv 2) pa_nil)) pa_nil)) (pg_name (i := 8) sc__law_laid.nd rfl (Or.inl rfl)) (pss_cons (ps_set (i := 9) sc__law_laid.nd rfl (Or.inl rfl) (pe_ifExp (pt_cmpR op_gt (pe_cal G__law_draw (hr.mono (by first | decide | omega)) (pa_cons (pv 0) (pa_cons pe_int pa_nil))) pe_int (nomark _)) (pe_tup (pa_cons (pv 6) (pa_cons (pe_cal G__law_draw (hr.mono (by first | decide | omega)) (pa_cons (pv 0) (pa_cons pe_int pa_nil))) pa_nil))) (pe_tup (pa_cons (pe_cal G__law_draw (hr.mono (by first | decide | omega)) (pa_cons (pv 0) (pa_cons pe_int pa_nil))) (pa_cons (pv 6) pa_nil)))))
      (pss_cons (ps_if (pt_cmpR op_ne (pv 8) (pv 7) (nomark _)) (pss_one (ps_expr (pe_bm PySem.F.plainAttrs_list PySem.F.slot_list_append PySem.F.type_list_append mt_append (pv 4) (pa_cons (pe_tup (pa_cons pe_str (pa_cons (pe_op op_catU (pe_op op_repU (pe_tup (pa_cons pe_int pa_nil)) (pv 1)) (pe_tup (pa_cons (pv 8) pa_nil))) (pa_cons (pe_op op_catU (pe_op op_repU (pe_tup (pa_cons pe_int pa_nil)) (pv 1)) (pe_tup (pa_cons (pe_ix ix_tup (pv 9) pe_int (fun _ _ => rfl)) pa_nil))) (pa_cons (pe_op op_catU (pe_op op_repU (pe_tup (pa_cons pe_int pa_nil)) (pv 1)) (pe_tup (pa_cons (pe_ix ix_tup (pv 9) pe_int (fun _ _ => rfl)) pa_nil))) pa_nil))))) pa_nil)))) pss_nil)
      (pss_one (ps_set (i := 6) sc__law_laid.nd rfl (Or.inl rfl) (pe_callB (call_min2 rfl) (by rfl) T.b_min bv_min (pa_cons (pe_op op_add (pe_op op_add (pv 6) (pe_ix ix_tup (pe_ix ix_tup (pv 2) (pv 8) (fun _ _ => rfl)) pe_int (fun _ _ => rfl))) (pv 5)) (pa_cons pe_int pa_nil))))))))
      (pss_one (ps_ret (pe_op op_catU (pe_tup (pa_cons (pe_op op_catU (pe_callTy call_tuple_of (by rfl) T.b_tuple bv_tuple (pa_cons (pv 4) pa_nil)) (pe_ix ix_tup (pv 3) pe_int (fun _ _ => rfl))) pa_nil)) (pe_slice sl_tupU (pv 3) (po_some pe_int) po_none))))))))), ?_⟩
  refine ⟨(by show 0 ≤ sizeLine; decide), fun l1 hl1 => ?_⟩
  have hx1 := (Hx.refl hh).new (o := .lst []) hl1
  refine ⟨_, rfl, _, rfl, (by show 6 ≤ sizeLine; decide), fun l2 hl2 => ⟨h, c, l2, _, IntIn (-1) 1000, rfl, (hx1.new hl2).h1, upd_same, by simp, by show 6 ≤ 100; omega, fa ⟨_, rfl, by omega, by omega⟩ (fa ⟨_, rfl, by omega, by omega⟩ (fa ⟨_, rfl, by omega, by omega⟩ (fa ⟨_, rfl, by omega, by omega⟩ (fa ⟨_, rfl, by omega, by omega⟩ (fa ⟨_, rfl, by omega, by omega⟩ fn))))), ?_⟩⟩
  rintro v H3 ⟨gap, rfl, gp0, gp1⟩ hx3
  have hx13 := (hx1.new (o := .lst [V.int 0, V.int 0, V.int 0, V.int 1, V.int (-1), V.int 1000]) hl2).trans hx3
  have el3 := hx3.l (newAt (u := .lst [V.int 0, V.int 0, V.int 0, V.int 1, V.int (-1), V.int 1000]) (upd_same (H := H) (a := l1) (o := .lst [])) hl2)
  refine ⟨_, rfl, h, c, 100, rfl, hx13.h1, by omega, by omega, fun r4 H4 r40 r41 hx4 => ⟨_, _, rfl, rfl, ?_⟩⟩
  have hx14 := hx13.trans hx4
  refine ⟨_, rfl, _, rfl, sz', _, rfl, .inr (SqT.of (hx14.t hzp)), _, _, rfl, rfl, .inl ⟨by decide, by decide⟩, h, c, _, rfl, hx14.h1, by omega, by omega, fun out H5 o0 o1 hx5 => ?_⟩
  have hx15 := hx14.trans hx5
  refine ⟨_, rfl, sz', _, rfl, .inr (SqT.of (hx15.t hzp)), _, rfl, by omega, by omega, ?_⟩
  refine for_range (n := ((zvs.length : Int)).toNat) (fun i σ H' => (∃ (here : Int) (x8 x9 : Option V), σ = [some (.ref h), some (.int (cells : Int)), some (.ref sz'), some (.ref rp), some (.ref l1), some (.int gap), some (.int here), some (.int out), x8, x9] ∧ -50 ≤ here ∧ here ≤ 1000) ∧ Hx h c H H' ∧ ∃ vs b, H' l1 = some (.lst vs) ∧ All2 (fun v s => StA H' s v) vs b ∧ OkB cells rs.length b ∧ dpB b = 0 ∧ szB b ≤ i ∧ b.length ≤ i)
    ⟨⟨r4 - 50, _, _, rfl, by omega, by omega⟩, hx15, [], [], (hx4.trans hx5).l el3, .nil, okB_nil, by rw [dpB], by rw [szB]; omega, by simp⟩ ?_ ?_
  · rintro i σ H' hi ⟨⟨here, x8, x9, rfl, here0, here1⟩, hx, vs, b, el, hv, okb, hdb, hsb, hlb⟩
    have hi : i < ((zvs.length : Int)).toNat := hi
    have bvl := hv.len
    obtain ⟨za, ez, hza⟩ := hzg (k := i) (by omega)
    have hzi := hzb (zs.getD i (0, 0)) (by rw [List.getD_eq_getElem?_getD, List.getElem?_eq_getElem (by omega)]; exact List.getElem_mem _)
    generalize zs.getD i (0, 0) = zi at hza hzi
    refine ⟨_, rfl, h, c, 4, rfl, hx.h1, by omega, by omega, fun r6 H6 r60 r61 hx6 => ⟨_, _, rfl, rfl, _, rfl, ?_⟩⟩
    refine ite2 (fun cr => ?_) (fun cr => ?_)
    · refine ⟨_, rfl, _, rfl, h, c, 3, rfl, hx6.h1, by omega, by omega, fun d H7 d0 d1 hx7 => ⟨(by show 2 ≤ sizeLine; decide), fun tp htp => ?_⟩⟩
      have hy := (hx6.trans hx7).new (o := .tup [V.int here, V.int d]) htp
      have ep : upd H7 tp (.tup [V.int here, V.int d]) tp = _ := upd_same
      -- y: Hx h c H' Hy, the place's tuple at tp
      refine ⟨_, rfl, _, rfl, rfl, _, rfl, ite2 (fun cc => ?_) (fun cc => ?_)⟩
      · have elz := Hx.l hy el
        refine ⟨_, rfl, .inl ⟨rfl, _, SqL.of elz⟩, ?_⟩
        refine ⟨(by show 1 ≤ sizeLine; decide), fun ta hta => ⟨_, rfl, ta, _, .int 0, rfl, rfl, upd_same, by omega, by omega, fun pa Ha ga ea => ?_⟩⟩
        have g1 := Same.trans (Same.new (o := .tup [V.int 0]) hta) ga
        refine ⟨_, rfl, (by show 1 ≤ sizeLine; decide), fun tb htb => ⟨pa, tb, _, _, rfl, rfl, newAt ea htb, upd_same, by rw [List.length_replicate, Int.toNat_natCast]; show cells + 1 ≤ _; omega, fun pb Hb gb eb => ?_⟩⟩
        have g2 := g1.trans (Same.trans (Same.new (o := .tup [V.int (0 + (i : Int))]) htb) gb)
        refine ⟨(by show 1 ≤ sizeLine; decide), fun tc htc => ⟨_, rfl, tc, _, .int 0, rfl, rfl, upd_same, by omega, by omega, fun pc Hc gc ec => ?_⟩⟩
        have g3 := g2.trans (Same.trans (Same.new (o := .tup [V.int 0]) htc) gc)
        have gb3 := Same.trans (Same.new (o := .tup [V.int 0]) htc) gc
        refine ⟨_, rfl, _, _, _, _, rfl, rfl, SqT.of (g3.at_ ep), atI_nat (j := 0) rfl, (by show 1 ≤ sizeLine; decide), fun td htd => ⟨pc, td, _, _, rfl, rfl, newAt ec htd, upd_same, by rw [List.length_replicate, Int.toNat_natCast]; show cells + 1 ≤ _; omega, fun pd Hd gd ed => ?_⟩⟩
        have g4 := g3.trans (Same.trans (Same.new (o := .tup [V.int here]) htd) gd)
        have gb4 := gb3.trans (Same.trans (Same.new (o := .tup [V.int here]) htd) gd)
        refine ⟨(by show 1 ≤ sizeLine; decide), fun te hte => ⟨_, rfl, te, _, .int 0, rfl, rfl, upd_same, by omega, by omega, fun pe He ge ee => ?_⟩⟩
        have g5 := g4.trans (Same.trans (Same.new (o := .tup [V.int 0]) hte) ge)
        have gb5 := gb4.trans (Same.trans (Same.new (o := .tup [V.int 0]) hte) ge)
        have gd5 := Same.trans (Same.new (o := .tup [V.int 0]) hte) ge
        refine ⟨_, rfl, _, _, _, _, rfl, rfl, SqT.of (g5.at_ ep), atI_nat (j := 1) rfl, (by show 1 ≤ sizeLine; decide), fun tf htf => ⟨pe, tf, _, _, rfl, rfl, newAt ee htf, upd_same, by rw [List.length_replicate, Int.toNat_natCast]; show cells + 1 ≤ _; omega, fun pf Hf gf ef => ?_⟩⟩
        have g6 := g5.trans (Same.trans (Same.new (o := .tup [V.int d]) htf) gf)
        have gb6 := gb5.trans (Same.trans (Same.new (o := .tup [V.int d]) htf) gf)
        have gd6 := gd5.trans (Same.trans (Same.new (o := .tup [V.int d]) htf) gf)
        refine ⟨(by show 4 ≤ sizeLine; decide), fun tg htg => ?_⟩
        have gg : Same Hf (upd Hf tg (.tup [V.str "put", V.ref pb, V.ref pd, V.ref pf])) := Same.new htg
        have g7 := g6.trans gg
        have el7 := g7.at_ elz
        refine ⟨l1, _, _, rfl, rfl, el7, szlt (by omega), ?_⟩
        have gE : Ext l1 (upd Hf tg (.tup [V.str "put", V.ref pb, V.ref pd, V.ref pf])) (upd (upd Hf tg (.tup [V.str "put", V.ref pb, V.ref pd, V.ref pf])) l1 (.lst (vs ++ [.ref tg]))) := Ext.refl.upd
        have kE := (gE.kpL el7).t
        have hy8 := Hx.mut (p := l1) (o := .lst (vs ++ [.ref tg])) ((Hx.trans hx hy).same g7) hl1
        have mk : ∀ (z : Int), (List.replicate ((cells : Int)).toNat (V.int 0)) ++ [V.int z] = (List.replicate cells 0 ++ [z]).map V.int := fun z => by rw [Int.toNat_natCast, new_map]
        rw [mk] at eb ed ef
        refine ⟨_, rfl, _, rfl, _, rfl, _, _, _, _, rfl, rfl, SqT.of (hy8.t hzp), at_ix (i := i) (by omega) ez, _, _, _, _, rfl, rfl, SqT.of (kE _ _ (g7.at_ (Hx.t hy (hx.t hza)))), atI_nat (j := 0) rfl, _, _, rfl, rfl, _, rfl, _, _, rfl, rfl, _, _, rfl, ?_⟩
        refine ⟨⟨_, _, _, rfl, ?_, ?_⟩, hy8, vs ++ [.ref tg], b ++ [.put (List.replicate cells 0 ++ [0 + (i : Int)]) (List.replicate cells 0 ++ [here]) (List.replicate cells 0 ++ [d])], upd_same, ?_, okB_snoc okb ?_, ?_, ?_, ?_⟩
        · show -50 ≤ (if (1000 : Int) < here + zi.1 + gap then 1000 else here + zi.1 + gap); split <;> omega
        · show (if (1000 : Int) < here + zi.1 + gap then 1000 else here + zi.1 + gap) ≤ 1000; split <;> omega
        · refine (hv.mono fun _ _ r => StA.mono (Tups.trans (Hx.tups hy) (Tups.trans (Same.tups g7) kE)) _ _ r).snoc ?_
          rw [StA]
          exact ⟨tg, .ref pb, .ref pd, .ref pf, rfl, kE _ _ upd_same, ⟨pb, rfl, kE _ _ (gg.at_ (gb6.at_ eb))⟩, ⟨pd, rfl, kE _ _ (gg.at_ (gd6.at_ ed))⟩, ⟨pf, rfl, kE _ _ (gg.at_ ef)⟩⟩
        · rw [OkS]; exact ⟨okSm_new ⟨by omega, by omega⟩, okSm_new ⟨by omega, by omega⟩, okSm_new ⟨by omega, by omega⟩⟩
        · rw [dpB_snoc, hdb, dpS]; rfl
        · rw [szB_snoc, szS]; omega
        · rw [List.length_append]; show b.length + 1 ≤ _; omega
      · have hy8 := Hx.trans hx hy
        refine ⟨_, rfl, _, rfl, _, rfl, _, _, _, _, rfl, rfl, SqT.of (hy8.t hzp), at_ix (i := i) (by omega) ez, _, _, _, _, rfl, rfl, SqT.of (Hx.t hy (hx.t hza)), atI_nat (j := 0) rfl, _, _, rfl, rfl, _, rfl, _, _, rfl, rfl, _, _, rfl, ?_⟩
        refine ⟨⟨_, _, _, rfl, ?_, ?_⟩, hy8, vs, b, Hx.l hy el, hv.mono fun _ _ r => StA.mono (Hx.tups hy) _ _ r, okb, hdb, by omega, by omega⟩
        · show -50 ≤ (if (1000 : Int) < here + zi.1 + gap then 1000 else here + zi.1 + gap); split <;> omega
        · show (if (1000 : Int) < here + zi.1 + gap then 1000 else here + zi.1 + gap) ≤ 1000; split <;> omega
    · refine ⟨_, rfl, h, c, 5, rfl, hx6.h1, by omega, by omega, fun d H7 d0 d1 hx7 => ⟨_, rfl, (by show 2 ≤ sizeLine; decide), fun tp htp => ?_⟩⟩
      have hy := (hx6.trans hx7).new (o := .tup [V.int d, V.int here]) htp
      have ep : upd H7 tp (.tup [V.int d, V.int here]) tp = _ := upd_same
      -- y: Hx h c H' Hy, the place's tuple at tp
      refine ⟨_, rfl, _, rfl, rfl, _, rfl, ite2 (fun cc => ?_) (fun cc => ?_)⟩
      · have elz := Hx.l hy el
        refine ⟨_, rfl, .inl ⟨rfl, _, SqL.of elz⟩, ?_⟩
        refine ⟨(by show 1 ≤ sizeLine; decide), fun ta hta => ⟨_, rfl, ta, _, .int 0, rfl, rfl, upd_same, by omega, by omega, fun pa Ha ga ea => ?_⟩⟩
        have g1 := Same.trans (Same.new (o := .tup [V.int 0]) hta) ga
        refine ⟨_, rfl, (by show 1 ≤ sizeLine; decide), fun tb htb => ⟨pa, tb, _, _, rfl, rfl, newAt ea htb, upd_same, by rw [List.length_replicate, Int.toNat_natCast]; show cells + 1 ≤ _; omega, fun pb Hb gb eb => ?_⟩⟩
        have g2 := g1.trans (Same.trans (Same.new (o := .tup [V.int (0 + (i : Int))]) htb) gb)
        refine ⟨(by show 1 ≤ sizeLine; decide), fun tc htc => ⟨_, rfl, tc, _, .int 0, rfl, rfl, upd_same, by omega, by omega, fun pc Hc gc ec => ?_⟩⟩
        have g3 := g2.trans (Same.trans (Same.new (o := .tup [V.int 0]) htc) gc)
        have gb3 := Same.trans (Same.new (o := .tup [V.int 0]) htc) gc
        refine ⟨_, rfl, _, _, _, _, rfl, rfl, SqT.of (g3.at_ ep), atI_nat (j := 0) rfl, (by show 1 ≤ sizeLine; decide), fun td htd => ⟨pc, td, _, _, rfl, rfl, newAt ec htd, upd_same, by rw [List.length_replicate, Int.toNat_natCast]; show cells + 1 ≤ _; omega, fun pd Hd gd ed => ?_⟩⟩
        have g4 := g3.trans (Same.trans (Same.new (o := .tup [V.int d]) htd) gd)
        have gb4 := gb3.trans (Same.trans (Same.new (o := .tup [V.int d]) htd) gd)
        refine ⟨(by show 1 ≤ sizeLine; decide), fun te hte => ⟨_, rfl, te, _, .int 0, rfl, rfl, upd_same, by omega, by omega, fun pe He ge ee => ?_⟩⟩
        have g5 := g4.trans (Same.trans (Same.new (o := .tup [V.int 0]) hte) ge)
        have gb5 := gb4.trans (Same.trans (Same.new (o := .tup [V.int 0]) hte) ge)
        have gd5 := Same.trans (Same.new (o := .tup [V.int 0]) hte) ge
        refine ⟨_, rfl, _, _, _, _, rfl, rfl, SqT.of (g5.at_ ep), atI_nat (j := 1) rfl, (by show 1 ≤ sizeLine; decide), fun tf htf => ⟨pe, tf, _, _, rfl, rfl, newAt ee htf, upd_same, by rw [List.length_replicate, Int.toNat_natCast]; show cells + 1 ≤ _; omega, fun pf Hf gf ef => ?_⟩⟩
        have g6 := g5.trans (Same.trans (Same.new (o := .tup [V.int here]) htf) gf)
        have gb6 := gb5.trans (Same.trans (Same.new (o := .tup [V.int here]) htf) gf)
        have gd6 := gd5.trans (Same.trans (Same.new (o := .tup [V.int here]) htf) gf)
        refine ⟨(by show 4 ≤ sizeLine; decide), fun tg htg => ?_⟩
        have gg : Same Hf (upd Hf tg (.tup [V.str "put", V.ref pb, V.ref pd, V.ref pf])) := Same.new htg
        have g7 := g6.trans gg
        have el7 := g7.at_ elz
        refine ⟨l1, _, _, rfl, rfl, el7, szlt (by omega), ?_⟩
        have gE : Ext l1 (upd Hf tg (.tup [V.str "put", V.ref pb, V.ref pd, V.ref pf])) (upd (upd Hf tg (.tup [V.str "put", V.ref pb, V.ref pd, V.ref pf])) l1 (.lst (vs ++ [.ref tg]))) := Ext.refl.upd
        have kE := (gE.kpL el7).t
        have hy8 := Hx.mut (p := l1) (o := .lst (vs ++ [.ref tg])) ((Hx.trans hx hy).same g7) hl1
        have mk : ∀ (z : Int), (List.replicate ((cells : Int)).toNat (V.int 0)) ++ [V.int z] = (List.replicate cells 0 ++ [z]).map V.int := fun z => by rw [Int.toNat_natCast, new_map]
        rw [mk] at eb ed ef
        refine ⟨_, rfl, _, rfl, _, rfl, _, _, _, _, rfl, rfl, SqT.of (hy8.t hzp), at_ix (i := i) (by omega) ez, _, _, _, _, rfl, rfl, SqT.of (kE _ _ (g7.at_ (Hx.t hy (hx.t hza)))), atI_nat (j := 0) rfl, _, _, rfl, rfl, _, rfl, _, _, rfl, rfl, _, _, rfl, ?_⟩
        refine ⟨⟨_, _, _, rfl, ?_, ?_⟩, hy8, vs ++ [.ref tg], b ++ [.put (List.replicate cells 0 ++ [0 + (i : Int)]) (List.replicate cells 0 ++ [d]) (List.replicate cells 0 ++ [here])], upd_same, ?_, okB_snoc okb ?_, ?_, ?_, ?_⟩
        · show -50 ≤ (if (1000 : Int) < here + zi.1 + gap then 1000 else here + zi.1 + gap); split <;> omega
        · show (if (1000 : Int) < here + zi.1 + gap then 1000 else here + zi.1 + gap) ≤ 1000; split <;> omega
        · refine (hv.mono fun _ _ r => StA.mono (Tups.trans (Hx.tups hy) (Tups.trans (Same.tups g7) kE)) _ _ r).snoc ?_
          rw [StA]
          exact ⟨tg, .ref pb, .ref pd, .ref pf, rfl, kE _ _ upd_same, ⟨pb, rfl, kE _ _ (gg.at_ (gb6.at_ eb))⟩, ⟨pd, rfl, kE _ _ (gg.at_ (gd6.at_ ed))⟩, ⟨pf, rfl, kE _ _ (gg.at_ ef)⟩⟩
        · rw [OkS]; exact ⟨okSm_new ⟨by omega, by omega⟩, okSm_new ⟨by omega, by omega⟩, okSm_new ⟨by omega, by omega⟩⟩
        · rw [dpB_snoc, hdb, dpS]; rfl
        · rw [szB_snoc, szS]; omega
        · rw [List.length_append]; show b.length + 1 ≤ _; omega
      · have hy8 := Hx.trans hx hy
        refine ⟨_, rfl, _, rfl, _, rfl, _, _, _, _, rfl, rfl, SqT.of (hy8.t hzp), at_ix (i := i) (by omega) ez, _, _, _, _, rfl, rfl, SqT.of (Hx.t hy (hx.t hza)), atI_nat (j := 0) rfl, _, _, rfl, rfl, _, rfl, _, _, rfl, rfl, _, _, rfl, ?_⟩
        refine ⟨⟨_, _, _, rfl, ?_, ?_⟩, hy8, vs, b, Hx.l hy el, hv.mono fun _ _ r => StA.mono (Hx.tups hy) _ _ r, okb, hdb, by omega, by omega⟩
        · show -50 ≤ (if (1000 : Int) < here + zi.1 + gap then 1000 else here + zi.1 + gap); split <;> omega
        · show (if (1000 : Int) < here + zi.1 + gap then 1000 else here + zi.1 + gap) ≤ 1000; split <;> omega
  · rintro σ H' ⟨⟨here, x8, x9, rfl, here0, here1⟩, hx, vs, b, el, hv, okb, hdb, hsb, hlb⟩
    have bvl := hv.len
    refine ⟨_, rfl, l1, _, rfl, .inl ⟨SqL.of el, fun t ht => ?_⟩⟩
    have g1 : Same H' (upd H' t (.tup vs)) := Same.new ht
    have hx1' := hx.new (o := .tup vs) ht
    obtain ⟨rvs, hrp, hrv⟩ := id hrt
    have rvl := hrv.len
    obtain ⟨b0, rt, ers⟩ : ∃ b0 rt, rs = b0 :: rt := by
      cases rs with
      | nil => exact absurd n1' (by decide)
      | cons a b => exact ⟨a, b, rfl⟩
    subst ers
    cases hrv with
    | @cons v0 _ rvt _ h0 hrvt =>
    obtain ⟨q0, rfl, hb0⟩ := h0
    obtain ⟨bvs, hq0, hbv⟩ := hb0.all
    have hs50 : szB b0 ≤ 50 := hs50
    have hbl := hbv.len
    have hb0l := szB_len b0
    refine ⟨_, rfl, _, _, _, _, rfl, rfl, SqT.of (hx1'.t hrp), atI_nat (j := 0) rfl, t, q0, _, _, rfl, rfl, upd_same, hx1'.t hq0, by omega, fun p1 H1 g2 e1 => ?_⟩
    have hx2' := hx1'.same g2
    refine ⟨(by show 1 ≤ sizeLine; decide), fun t2 ht2 => ?_⟩
    have g3 : Same H1 (upd H1 t2 (.tup [V.ref p1])) := Same.new ht2
    have hx3' := hx2'.same g3
    refine ⟨_, rfl, _, rfl, rp, _, rfl, hx3'.t hrp, fun p3 H3' g4 e3 => ?_⟩
    have e0 : cutV (V.ref q0 :: rvt) (some 1) none = rvt := cut_from (xs := V.ref q0 :: rvt) (k := 1) (n := 1) (by show 1 ≤ rvt.length + 1; omega) rfl
    rw [e0] at e3
    refine ⟨t2, p3, _, _, rfl, rfl, g4.at_ upd_same, e3, by rw [List.length_cons] at rvl; rw [List.length_cons] at rvl n5; show 1 + rvt.length ≤ _; omega, fun p4 H4' g5 e4 => ?_⟩
    have hx4' := (hx3'.same g4).same g5
    have g15 := g2.trans (g3.trans (g4.trans g5))
    have hdp0 := R.dp b0 List.mem_cons_self
    refine q p4 ((b ++ b0) :: rt) H4' hx4' ⟨V.ref p1 :: rvt, e4, .cons ⟨p1, rfl, BdA.of ((g3.trans (g4.trans g5)).at_ e1) ?_⟩ (hrvt.mono fun _ _ ⟨q', e, r⟩ => ⟨q', e, r.mono hx4'.tups⟩)⟩ ?_
    · exact (hv.mono fun _ _ r => StA.mono (Same.tups (g1.trans g15)) _ _ r).append (hbv.mono fun _ _ r => StA.mono hx4'.tups _ _ r)
    · refine ⟨fun x m => ?_, fun x m => ?_, fun x m => ?_, n1', n5⟩
      · rcases List.mem_cons.mp m with e | m
        · rw [e]
          exact OkB_of fun y my => (List.mem_append.mp my).elim (fun z => OkB_mem okb y z) fun z => OkB_mem (R.ok b0 List.mem_cons_self) y z
        · exact R.ok x (List.mem_cons_of_mem _ m)
      · rcases List.mem_cons.mp m with e | m
        · rw [e, dpB_append, hdb, Nat.zero_max]; exact hdp0
        · exact R.dp x (List.mem_cons_of_mem _ m)
      · rcases List.mem_cons.mp m with e | m
        · rw [e, szB_append]; omega
        · exact R.sz x (List.mem_cons_of_mem _ m)
end
end K34

set_option Elab.async false
set_option linter.all false
set_option maxRecDepth 100000
set_option maxHeartbeats 4000000
/-! D15: the law's machine. -/
namespace K34
open PySem PySem.Spec PyProof.Rows L2
open He (ga ma)
theorem StkA.head {H : Hp} {p : Addr} {n q : Nat} {ls : List (Nat × Nat)} (h : StkA H p ((n, q) :: ls)) : ∃ (vs : List V) (a : Addr), H p = some (.tup (vs.reverse ++ [.ref a])) ∧ H a = some (.tup [.int (n : Int), .int (q : Int)]) ∧ All2 (fun v (x : Nat × Nat) => ∃ a, v = .ref a ∧ H a = some (.tup [.int (x.1 : Int), .int (x.2 : Int)])) vs ls := by
  obtain ⟨vs, e, x⟩ := h
  cases x with
  | cons y x =>
    obtain ⟨a, rfl, e2⟩ := y
    rw [List.reverse_cons] at e
    exact ⟨_, a, e, e2, x⟩
theorem StkA.of {H : Hp} {p : Addr} {n q : Nat} {ls : List (Nat × Nat)} {vs : List V} {a : Addr} (e : H p = some (.tup (vs.reverse ++ [.ref a]))) (e2 : H a = some (.tup [.int (n : Int), .int (q : Int)])) (x : All2 (fun v (x : Nat × Nat) => ∃ a, v = .ref a ∧ H a = some (.tup [.int (x.1 : Int), .int (x.2 : Int)])) vs ls) : StkA H p ((n, q) :: ls) :=
  ⟨.ref a :: vs, by rw [List.reverse_cons]; exact e, .cons ⟨a, rfl, e2⟩ x⟩
theorem CdsA.get {H : Hp} {a : Addr} {rs : List (List Stm)} (h : CdsA H a rs) : ∃ cs, H a = some (.lst cs) ∧ ∀ {n : Nat}, n < rs.length → ∃ p vs, cs[n]? = some (.ref p) ∧ H p = some (.lst vs) ∧ All2 (ItmA H) vs (codeB (rs.getD n [])) := by
  obtain ⟨cs, e, x⟩ := h
  refine ⟨cs, e, fun {n} hn => ?_⟩
  obtain ⟨v, e2, p, rfl, vs, e3, x3⟩ := x.get (List.getElem?_eq_getElem hn)
  refine ⟨p, vs, e2, e3, ?_⟩
  rw [List.getD_eq_getElem?_getD, List.getElem?_eq_getElem hn]
  exact x3
/-- what the law's place holds -/
theorem Sim.item {rs : List (List Stm)} {o : Opn} {n q : Nat} {ls : List (Nat × Nat)} {s : Stm} (S : Sim rs o ((n, q) :: ls)) (h : nextP o = some s) : n < rs.length ∧ Seg (codeB (rs.getD n [])) q (flatS q s) := by
  obtain ⟨n', b, p, lv, rest, rfl, e⟩ := next_ex h
  cases S with
  | cons hn a w => exact ⟨hn, a.item e⟩
/-- a statement's first item -/
def hdI (q : Nat) : Stm → Itm
  | .ite t y _ => .test t (q + 1 + (flatB (q + 1) y).length + 1)
  | .whl t d => .test t (q + 1 + (flatB (q + 1) d).length + 1)
  | s => .do_ s
theorem hdI_seg {c : List Itm} {q : Nat} {s : Stm} (h : Seg c q (flatS q s)) : c[q]? = some (hdI q s) := by
  cases s with
  | ite t y n => rw [flatS] at h; exact h.head
  | whl t d => rw [flatS] at h; exact h.head
  | set c z => rw [flatS] at h; exact h.head
  | put b x y => rw [flatS] at h; exact h.head
  | ask c w z => rw [flatS] at h; exact h.head
  | call r => rw [flatS] at h; exact h.head
def wI : Itm → Str
  | .go _ => "go"
  | .test _ _ => "test"
  | .do_ _ => "do"
  | .end_ => "end"
theorem ItmA.head {H : Hp} {i : Itm} {v : V} (h : ItmA H v i) : ∃ a xs, v = .ref a ∧ H a = some (.tup (.str (wI i) :: xs)) := by
  cases i with
  | go p => obtain ⟨a, e, e2⟩ := h; exact ⟨a, _, e, e2⟩
  | test t p => obtain ⟨a, q, e, e2, _⟩ := h; exact ⟨a, _, e, e2⟩
  | do_ s => obtain ⟨a, q, e, e2, _⟩ := h; exact ⟨a, _, e, e2⟩
  | end_ => obtain ⟨a, e, e2⟩ := h; exact ⟨a, _, e, e2⟩
theorem wI_hd {q : Nat} {s : Stm} : decide (V.str (wI (hdI q s)) = V.str "go") = false ∧ decide (V.str (wI (hdI q s)) = V.str "end") = false := by
  cases s with
  | ite t y n => exact ⟨show decide (V.str "test" = V.str "go") = false by decide +kernel, show decide (V.str "test" = V.str "end") = false by decide +kernel⟩
  | whl t d => exact ⟨show decide (V.str "test" = V.str "go") = false by decide +kernel, show decide (V.str "test" = V.str "end") = false by decide +kernel⟩
  | set c z => exact ⟨show decide (V.str "do" = V.str "go") = false by decide +kernel, show decide (V.str "do" = V.str "end") = false by decide +kernel⟩
  | put b x y => exact ⟨show decide (V.str "do" = V.str "go") = false by decide +kernel, show decide (V.str "do" = V.str "end") = false by decide +kernel⟩
  | ask c w z => exact ⟨show decide (V.str "do" = V.str "go") = false by decide +kernel, show decide (V.str "do" = V.str "end") = false by decide +kernel⟩
  | call r => exact ⟨show decide (V.str "do" = V.str "go") = false by decide +kernel, show decide (V.str "do" = V.str "end") = false by decide +kernel⟩
theorem pos_rep {H : Hp} : ∀ m : Nat, All2 (PlA H) (List.replicate m V.non) (List.replicate m none)
  | 0 => .nil
  | m + 1 => by rw [List.replicate_succ, List.replicate_succ]; exact .cons rfl (pos_rep m)
def spLSet : Sp := fun vs H Q _ => ∃ (cd p : Addr) (rs : List (List Stm)) (o : Opn) (l : List (Nat × Nat)), vs = [.ref cd, .ref p] ∧ CdsA H cd rs ∧ StkA H p l ∧ Sim rs o l ∧ l.length ≤ 30 ∧ ∀ p' l' H', Same H H' → StkA H' p' l' → Sim rs (settledP o) l' → Q (.ref p') H'
def spLBegun : Sp := fun vs H Q _ => ∃ (cd : Addr) (u : V) (cells many : Nat) (rs : List (List Stm)) (hd : List Int), vs = [.ref cd, u, .int (many : Int)] ∧ CdsA H cd rs ∧ OkR cells rs ∧ 1 ≤ many ∧ many ≤ 4 ∧ SmA H u hd ∧ ∀ v H', Same H H' → LwA rs H' v (st0 rs hd many) → Q v H'
def spLComing : Sp := fun vs H Q _ => ∃ (cd : Addr) (v : V) (rs : List (List Stm)) (st : PSt), vs = [.ref cd, v] ∧ CdsA H cd rs ∧ LwA rs H v st ∧ Set_ st.op ∧ ∀ v', ComA H v' st → Q v' H
def spLWord : Sp := fun vs H Q _ => ∃ (cd sz : Addr) (v : V) (cells : Nat) (rs : List (List Stm)) (zs : List (Int × Int)) (st : PSt), vs = [.ref cd, .ref sz, v] ∧ CdsA H cd rs ∧ SizA H sz zs ∧ LwA rs H v st ∧ StOk cells rs zs.length st ∧ ∀ H', Same H H' → Q (.str (wrS (wordP zs.length st))) H'
def spLAsked : Sp := fun vs H Q _ => ∃ (sz : Addr) (sv u v : V) (zs : List (Int × Int)) (pos : List (Option (Int × Int))) (c : Nat) (wd : Wd) (z : Sm) (hd : List Int), vs = [.ref sz, sv, u, v] ∧ SizA H sz zs ∧ StA H (.ask c wd z) sv ∧ SmA H u hd ∧ PosA H v pos ∧ OkSm hd.length z ∧ hd.length ≤ 5 ∧ 0 ≤ val z hd ∧ val z hd < zs.length ∧ (wd = .width ∨ wd = .height ∨ ∃ y, pos[(val z hd).toNat]? = some (some y)) ∧
  ∀ H', Same H H' → Q (.int (askedP zs pos wd (val z hd).toNat)) H'
def spLStep : Sp := fun vs H Q _ => ∃ (cd sz : Addr) (v : V) (cells : Nat) (rs : List (List Stm)) (zs : List (Int × Int)) (st : PSt), vs = [.ref cd, .ref sz, v] ∧ CdsA H cd rs ∧ SizA H sz zs ∧ LwA rs H v st ∧ StOk cells rs zs.length st ∧ wordP zs.length st = .runs ∧ ∀ v' H', Same H H' → LwA rs H' v' (behindP rs zs st) → Q v' H'
section
variable {P : Program} {w : World} {K : PySem.W.Frag} {mg : Str → Option Value} {base : Heap}
theorem ok_lsettled (T : Facts w K mg) : OkF P w K mg base CX0 1 "_law_settled" ["_law_codes_here", "_law_stack"] spLSet := by
  refine T.d__law_settled.ok sc__law_settled bb__law_settled (fun vs H Q E h => ?_) (fun f cdv A outer s H vs Q E hr h => ?_)
  · obtain ⟨_, _, _, _, _, rfl, _⟩ := h; rfl
  obtain ⟨cd, p0, rs, o0, l0, rfl, hc, hp0, S0, hl0, q⟩ := h
  refine ⟨_, (pss_cons (ps_while PassesOwn.never (pt_cmpR op_gt (pe_callB call_len_seq (by rfl) T.b_len PySem.boot_len (pa_cons (pv 1) pa_nil)) pe_int (nomark _)) (pss_cons (ps_asg (pe_ix ix_tup (pv 1) (pe_un un_neg pe_int) (fun _ _ => rfl)) (pg_tup rfl (pgs_cons (pg_name (i := 2) sc__law_settled.nd rfl (Or.inl rfl)) (pgs_cons (pg_name (i := 3) sc__law_settled.nd rfl (Or.inl rfl)) pgs_nil))))
      (pss_cons (ps_set (i := 4) sc__law_settled.nd rfl (Or.inl rfl) (pe_ix ix_list (pe_ix ix_list (pv 0) (pv 2) (fun _ _ => rfl)) (pv 3) (fun _ _ => rfl)))
      (pss_one (ps_if (pt_cmpR op_eq (pe_ix ix_tup (pv 4) pe_int (fun _ _ => rfl)) pe_str (nomark _)) (pss_one (ps_set (i := 1) sc__law_settled.nd rfl (Or.inl rfl) (pe_op op_catU (pe_slice sl_tupU (pv 1) po_none (po_some (pe_un un_neg pe_int))) (pe_tup (pa_cons (pe_tup (pa_cons (pv 2) (pa_cons (pe_ix ix_tup (pv 4) pe_int (fun _ _ => rfl)) pa_nil))) pa_nil))))) (pss_one (ps_if (pt_cmpR op_eq (pe_ix ix_tup (pv 4) pe_int (fun _ _ => rfl)) pe_str (nomark _)) (pss_one (ps_set (i := 1) sc__law_settled.nd rfl (Or.inl rfl) (pe_slice sl_tupU (pv 1) po_none (po_some (pe_un un_neg pe_int))))) (pss_one (ps_ret (pv 1))))))))))
      (pss_one (ps_ret (pv 1)))), ?_⟩
  refine while_m (fun m σ H' => ∃ p x y z o l, σ = [some (.ref cd), some (.ref p), x, y, z] ∧ StkA H' p l ∧ Sim rs o l ∧ l.length ≤ 30 ∧ settledP o = settledP o0 ∧ Same H H' ∧ levs o = m) (levs o0) ⟨p0, none, none, none, o0, l0, rfl, hp0, S0, hl0, rfl, Same.refl', rfl⟩ ?_
  rintro m σ H' ⟨p, x, y, z, o, l, rfl, hp, S, hl, he, g, rfl⟩
  rcases Sim.move _ (Nat.le_refl _) S with ⟨rfl, e⟩ | ⟨n, q', ls, s, rfl, S', hn, seg, hnn⟩ | ⟨n, q', q2, ls, o', rfl, hnn, ec, S', es, hlt⟩ | ⟨n, q', ls, o', rfl, hnn, ec, S', es, hlt⟩
  · obtain ⟨vs, hps, hv⟩ := id hp
    cases hv
    refine ⟨_, rfl, p, _, rfl, .inr (SqT.of hps), _, _, rfl, rfl, _, rfl, itF (by decide) ⟨_, rfl, ?_⟩⟩
    refine q p [] H' g hp ?_
    rw [← he, e]; exact .nil
  all_goals
    obtain ⟨vs, a, hps, ha, hv⟩ := hp.head
    have vl := hv.len
    rw [List.length_cons] at hl
    obtain ⟨cs, hcs, hg⟩ := (hc.same g).get
    obtain ⟨pc, cvs, ecs, hpc, hit⟩ := hg hnn
    refine ⟨_, rfl, p, _, rfl, .inr (SqT.of hps), _, _, rfl, rfl, _, rfl, itT (decide_eq_true (by rw [List.length_append, List.length_singleton]; omega)) ⟨_, fun σ' H' h => h, ?_⟩⟩
    refine ⟨_, rfl, _, rfl, _, _, _, _, rfl, rfl, SqT.of (hps), at_last rfl, _, _, rfl, SqT.of ha, rfl, _, _, rfl, _, _, rfl, rfl, ?_⟩
  · obtain ⟨iv, eiv, hiv⟩ := hit.get (hdI_seg seg)
    obtain ⟨ia, ixs, rfl, hia⟩ := hiv.head
    refine ⟨_, rfl, _, rfl, _, _, _, _, rfl, rfl, SqL.of hcs, atI_nat ecs, _, rfl, _, _, _, _, rfl, rfl, SqL.of hpc, atI_nat eiv, ?_⟩
    refine ⟨_, rfl, _, _, _, _, rfl, rfl, SqT.of (hia), atI_nat (j := 0) rfl, rfl, _, rfl, itF wI_hd.1 ⟨_, rfl, _, _, _, _, rfl, rfl, SqT.of (hia), atI_nat (j := 0) rfl, rfl, _, rfl, itF wI_hd.2 ⟨_, rfl, ?_⟩⟩⟩
    refine q p _ H' g hp ?_
    rw [← he]; exact S'
  · obtain ⟨iv, eiv, ia, rfl, hia⟩ := hit.get ec
    refine ⟨_, rfl, _, rfl, _, _, _, _, rfl, rfl, SqL.of hcs, atI_nat ecs, _, rfl, _, _, _, _, rfl, rfl, SqL.of hpc, atI_nat eiv, ?_⟩
    refine ⟨_, rfl, _, _, _, _, rfl, rfl, SqT.of (hia), atI_nat (j := 0) rfl, rfl, _, rfl, itT (by decide +kernel) ?_⟩
    refine ⟨_, rfl, _, rfl, _, rfl, p, _, rfl, hps, fun p1 H1 g1 e1 => ?_⟩
    rw [cut_init rfl] at e1
    refine ⟨_, rfl, _, rfl, _, _, _, _, rfl, rfl, SqT.of (g1.at_ hia), atI_nat (j := 1) rfl, (by show 2 ≤ sizeLine; decide), fun p2 hp2 => ⟨(by show 1 ≤ sizeLine; decide), fun p3 hp3 => ?_⟩⟩
    have g3 := Same.then_ (Same.new (o := .tup [V.int (n : Int), V.int (q2 : Int)]) hp2) (o := .tup [V.ref p2]) hp3
    refine ⟨p1, p3, _, _, rfl, rfl, g3.at_ e1, upd_same, by rw [List.length_reverse, List.length_singleton]; omega, fun p4 H4 g4 e4 => ?_⟩
    have gg := g1.trans (g3.trans g4)
    refine ⟨_, hlt, p4, _, _, _, o', _, rfl, StkA.of e4 (g4.at_ (newAt upd_same hp3)) (hv.mono fun _ _ ⟨a, e, r⟩ => ⟨a, e, gg.at_ r⟩), S', by rw [List.length_cons]; exact hl, by rw [es]; exact he, g.trans gg, rfl⟩
  · obtain ⟨iv, eiv, ia, rfl, hia⟩ := hit.get ec
    refine ⟨_, rfl, _, rfl, _, _, _, _, rfl, rfl, SqL.of hcs, atI_nat ecs, _, rfl, _, _, _, _, rfl, rfl, SqL.of hpc, atI_nat eiv, ?_⟩
    refine ⟨_, rfl, _, _, _, _, rfl, rfl, SqT.of (hia), atI_nat (j := 0) rfl, rfl, _, rfl, itF (by decide +kernel) ⟨_, rfl, _, _, _, _, rfl, rfl, SqT.of (hia), atI_nat (j := 0) rfl, rfl, _, rfl, itT (by decide +kernel) ?_⟩⟩
    refine ⟨_, rfl, _, rfl, _, rfl, p, _, rfl, hps, fun p1 H1 g1 e1 => ?_⟩
    rw [cut_init rfl] at e1
    exact ⟨_, hlt, p1, _, _, _, o', ls, rfl, ⟨vs, e1, hv.mono fun _ _ ⟨a, e, r⟩ => ⟨a, e, g1.at_ r⟩⟩, S', by omega, by rw [es]; exact he, g.trans g1, rfl⟩
theorem ok_lbegun (T : Facts w K mg) : OkF P w K mg base CX0 2 "_law_begun" ["_law_codes_here", "_law_begins", "_law_many"] spLBegun := by
  have G__law_settled := ok_lsettled (P := P) (base := base) T
  refine T.d__law_begun.ok sc__law_begun bb__law_begun (fun vs H Q E h => ?_) (fun f cdv A outer s H vs Q E hr h => ?_)
  · obtain ⟨_, _, _, _, _, _, rfl, _⟩ := h; rfl
  obtain ⟨cd, u, cells, many, rs, hd, rfl, hc, R, m1, m4, hu, q⟩ := h
  refine ⟨_, (pss_one (ps_ret (pe_tup (pa_cons (pe_cal G__law_settled (hr.mono (by first | decide | omega)) (pa_cons (pv 0) (pa_cons (pe_tup (pa_cons (pe_tup (pa_cons pe_int (pa_cons pe_int pa_nil))) pa_nil)) pa_nil))) (pa_cons (pv 1) (pa_cons (pe_op op_repU (pe_tup (pa_cons pe_non pa_nil)) (pv 2)) pa_nil)))))), ?_⟩
  refine ⟨_, rfl, (by show 2 ≤ sizeLine; decide), fun p1 hp1 => ⟨(by show 1 ≤ sizeLine; decide), fun p2 hp2 => ?_⟩⟩
  have g2 := Same.then_ (Same.new (o := .tup [V.int 0, V.int 0]) hp1) (o := .tup [V.ref p1]) hp2
  refine ⟨cd, p2, rs, [(0, [(rs.getD 0 [], 0)])], [(0, 0)], rfl, hc.same g2, StkA.of (vs := []) upd_same (newAt upd_same hp2) .nil, .cons R.n1 At.first .nil, by simp, fun p3 l3 H3 g3 hs3 S3 => ?_⟩
  refine ⟨_, rfl, (by show 1 ≤ sizeLine; decide), fun p4 hp4 => ⟨_, rfl, p4, _, .non, rfl, rfl, upd_same, by omega, by omega, fun p5 H5 g5 e5 => ⟨(by show 3 ≤ sizeLine; decide), fun p6 hp6 => ?_⟩⟩⟩
  have g46 := Same.trans (Same.new (o := .tup [V.non]) hp4) (g5.trans (Same.new (o := .tup [V.ref p3, u, V.ref p5]) hp6))
  have gg := g2.trans (g3.trans g46)
  refine q _ _ gg ⟨p6, p3, u, .ref p5, l3, rfl, upd_same, hs3.mono (Same.tups g46), S3, hu.mono (Same.tups gg), p5, _, rfl, newAt e5 hp6, ?_⟩
  show All2 _ (List.replicate (many : Int).toNat V.non) (List.replicate many none)
  rw [Int.toNat_natCast]
  exact pos_rep many
theorem ok_lworth (T : Facts w K mg) : OkF P w K mg base CX0 1 "_law_worth" ["_law_summed", "_law_held"] spVal := by
  refine T.d__law_worth.ok sc__law_worth bb__law_worth (fun vs H Q E h => ?_) (fun f cdv A outer s H vs Q E hr h => ?_)
  · obtain ⟨v, u, s, hd, rfl, _⟩ := h; rfl
  obtain ⟨v, u, z, hd, rfl, ⟨a, rfl, ha⟩, ⟨b, rfl, hb⟩, hl, h5, hz, q⟩ := h
  refine ⟨_, (pss_one (ps_ret (pe_op op_add (pe_ix ix_tup (pv 0) (pe_un un_neg pe_int) (fun _ _ => rfl)) (pe_callB (cr_sum rfl) (by rfl) T.b_sum bv_sum (pa_cons (pe_lc (own := [("_law_k", 2)]) (g := (gName 2)) (tt := tYes) rfl sc__law_worth.nd (pi_range1 (by rfl) T.b_range (pa_cons (pe_callB call_len_seq (by rfl) T.b_len PySem.boot_len (pa_cons (pv 1) pa_nil)) pa_nil)) (blkOk_by (N := N__law_worth) (sc := defScope s__law_worth) (by decide +kernel)) (fun _ _ _ _ _ => (pg_name (i := 2) sc__law_worth.nd rfl (Or.inl rfl))) (fun _ _ _ _ _ => pts_nil) (fun _ _ _ _ _ => (pe_op op_mul (pe_ix (show IxR _ (rIxT K) from ix_tup) (pv 0) (pv 2) (fun _ _ => rfl)) (pe_ix (show IxR _ (rIxT K) from ix_tup) (pv 1) (pv 2) (fun _ _ => rfl))))) pa_nil))))), ?_⟩
  have hne : z ≠ [] := by intro e; rw [e] at hl; simp at hl
  refine ⟨_, rfl, _, rfl, _, _, _, _, rfl, rfl, SqT.of (ha), at_sum hne rfl, _, rfl, b, _, rfl, .inr (SqT.of hb), _, rfl, by rw [List.length_map]; omega, by rw [List.length_map]; omega, fun D hD => ?_⟩
  refine lc_range (n := (((hd.map V.int).length : Int)).toNat) (fun i H' => Same H H' ∧ H' D = some (.lst (((List.zipWith (· * ·) z hd).take i).map V.int))) ⟨Same.new hD, upd_same⟩ ?_ ?_
  · rintro i H' hi ⟨g, h1⟩
    have hi : i < (((hd.map V.int).length : Int)).toNat := hi
    rw [List.length_map] at hi
    have i1 : i < z.length := by omega
    have i2 : i < hd.length := by omega
    have hb1 := hz z[i] (List.getElem_mem i1)
    have e1 : (z.map V.int)[i]? = some (.int z[i]) := by rw [List.getElem?_map, List.getElem?_eq_getElem i1]; rfl
    have e2 : (hd.map V.int)[i]? = some (.int hd[i]) := by rw [List.getElem?_map, List.getElem?_eq_getElem i2]; rfl
    refine ⟨rfl, _, rfl, _, rfl, _, _, _, _, rfl, rfl, SqT.of (g.at_ ha), at_ix (i := i) (by omega) e1, _, rfl, _, rfl, _, _, _, _, rfl, rfl, SqT.of (g.at_ hb), at_ix (i := i) (by omega) e2, _, _, rfl, rfl, .inl ⟨by omega, by omega⟩, _, h1, ?_, Same.mut g hD, ?_⟩
    · rw [List.length_map, List.length_take]; exact szlt (by omega)
    · rw [upd_same, List.take_add_one, List.getElem?_zipWith, List.getElem?_eq_getElem i1, List.getElem?_eq_getElem i2, List.map_append]; rfl
  · rintro H' ⟨g, h1⟩
    have e : (List.zipWith (· * ·) z hd).take (((hd.map V.int).length : Int)).toNat = List.zipWith (· * ·) z hd := List.take_of_length_le (by rw [List.length_zipWith, List.length_map]; omega)
    rw [e] at h1
    refine ⟨D, _, rfl, SqL.of h1, _, _, rfl, rfl, ?_⟩
    have := q _ g
    unfold val at this
    rw [← dot_zip] at this
    exact this
theorem LwA.runs {rs : List (List Stm)} {H : Hp} {v : V} {st : PSt} (h : LwA rs H v st) (hs : Set_ st.op) : (st.op = [] ∧ ∃ a p vh vp, v = .ref a ∧ H a = some (.tup [.ref p, vh, vp]) ∧ H p = some (.tup []) ∧ SmA H vh st.held ∧ PosA H vp st.pos) ∨
    ∃ s a p vh vp n q ls vs b, nextP st.op = some s ∧ v = .ref a ∧ H a = some (.tup [.ref p, vh, vp]) ∧ SmA H vh st.held ∧ PosA H vp st.pos ∧ Sim rs st.op ((n, q) :: ls) ∧ H p = some (.tup (vs.reverse ++ [.ref b])) ∧ H b = some (.tup [.int (n : Int), .int (q : Int)]) ∧ All2 (fun v (x : Nat × Nat) => ∃ a, v = .ref a ∧ H a = some (.tup [.int (x.1 : Int), .int (x.2 : Int)])) vs ls := by
  obtain ⟨a, p, vh, vp, l, rfl, ha, hp, S, hh, hP⟩ := h
  rcases hs with e | ⟨s, hs⟩
  · left
    refine ⟨e, a, p, vh, vp, rfl, ha, ?_, hh, hP⟩
    rw [e] at S
    cases S
    obtain ⟨vs, e2, x⟩ := hp
    cases x
    exact e2
  · right
    obtain ⟨n', b', p', lv, rest, eo, _⟩ := next_ex hs
    cases l with
    | nil => have := S.len; rw [eo] at this; cases this
    | cons x ls =>
      obtain ⟨n, q⟩ := x
      obtain ⟨vs, b, e1, e2, x⟩ := hp.head
      exact ⟨s, a, p, vh, vp, n, q, ls, vs, b, hs, rfl, ha, hh, hP, S, e1, e2, x⟩
/-- the second part of a statement's first item -/
theorem hdI_com {H : Hp} {q : Nat} {s : Stm} {v : V} {st : PSt} (h : ItmA H v (hdI q s)) (hn : nextP st.op = some s) : ∃ a x xs, v = .ref a ∧ H a = some (.tup (.str (wI (hdI q s)) :: x :: xs)) ∧ ComA H x st := by
  cases s with
  | ite t y n => obtain ⟨a, p, e, e2, ht⟩ := h; exact ⟨a, p, _, e, e2, .inr ⟨_, hn, ht⟩⟩
  | whl t y => obtain ⟨a, p, e, e2, ht⟩ := h; exact ⟨a, p, _, e, e2, .inr ⟨_, hn, ht⟩⟩
  | set c z => obtain ⟨a, p, e, e2, ht⟩ := h; exact ⟨a, p, _, e, e2, .inr ⟨_, hn, ht⟩⟩
  | put b x y => obtain ⟨a, p, e, e2, ht⟩ := h; exact ⟨a, p, _, e, e2, .inr ⟨_, hn, ht⟩⟩
  | ask c w z => obtain ⟨a, p, e, e2, ht⟩ := h; exact ⟨a, p, _, e, e2, .inr ⟨_, hn, ht⟩⟩
  | call r => obtain ⟨a, p, e, e2, ht⟩ := h; exact ⟨a, p, _, e, e2, .inr ⟨_, hn, ht⟩⟩
theorem ok_lcoming (T : Facts w K mg) : OkF P w K mg base CX0 1 "_law_coming" ["_law_codes_here", "_law_state"] spLComing := by
  refine T.d__law_coming.ok sc__law_coming bb__law_coming (fun vs H Q E h => ?_) (fun f cdv A outer s H vs Q E hr h => ?_)
  · obtain ⟨_, _, _, _, rfl, _⟩ := h; rfl
  obtain ⟨cd, v, rs, st, rfl, hc, hL, hset, q⟩ := h
  refine ⟨_, (pss_cons (ps_if (pt_cmpR op_eq (pe_callB call_len_seq (by rfl) T.b_len PySem.boot_len (pa_cons (pe_ix ix_tup (pv 1) pe_int (fun _ _ => rfl)) pa_nil)) pe_int (nomark _)) (pss_one (ps_ret pe_non)) pss_nil)
      (pss_cons (ps_asg (pe_ix ix_tup (pe_ix ix_tup (pv 1) pe_int (fun _ _ => rfl)) (pe_un un_neg pe_int) (fun _ _ => rfl)) (pg_tup rfl (pgs_cons (pg_name (i := 2) sc__law_coming.nd rfl (Or.inl rfl)) (pgs_cons (pg_name (i := 3) sc__law_coming.nd rfl (Or.inl rfl)) pgs_nil))))
      (pss_one (ps_ret (pe_ix ix_tup (pe_ix ix_list (pe_ix ix_list (pv 0) (pv 2) (fun _ _ => rfl)) (pv 3) (fun _ _ => rfl)) pe_int (fun _ _ => rfl)))))), ?_⟩
  rcases hL.runs hset with ⟨eo, a, p, vh, vp, rfl, ha, hp, hh, hP⟩ | ⟨s, a, p, vh, vp, n, q', ls, vs, b, hn, rfl, ha, hh, hP, S, hp, hb, hv⟩
  · exact ⟨_, rfl, _, _, _, _, rfl, rfl, SqT.of (ha), atI_nat (j := 0) rfl, p, _, rfl, .inr (SqT.of hp), rfl, _, rfl, itT (by decide) (q _ (.inl ⟨eo, rfl⟩))⟩
  · obtain ⟨hnn, seg⟩ := S.item hn
    obtain ⟨cs, hcs, hg⟩ := hc.get
    obtain ⟨pc, cvs, ecs, hpc, hit⟩ := hg hnn
    obtain ⟨iv, eiv, hiv⟩ := hit.get (hdI_seg seg)
    obtain ⟨ia, x, ixs, rfl, hia, hcom⟩ := hdI_com hiv hn
    refine ⟨_, rfl, _, _, _, _, rfl, rfl, SqT.of (ha), atI_nat (j := 0) rfl, p, _, rfl, .inr (SqT.of hp), rfl, _, rfl, itF (decide_eq_false ?_) ?_⟩
    · intro z
      have := V.int.inj z
      rw [List.length_append, List.length_singleton] at this
      omega
    refine ⟨_, rfl, _, _, _, _, rfl, rfl, SqT.of (ha), atI_nat (j := 0) rfl, _, rfl, _, _, _, _, rfl, rfl, SqT.of hp, at_last rfl, _, _, rfl, SqT.of hb, rfl, _, _, rfl, _, _, rfl, rfl, ?_⟩
    exact ⟨_, rfl, _, rfl, _, _, _, _, rfl, rfl, SqL.of hcs, atI_nat ecs, _, rfl, _, _, _, _, rfl, rfl, SqL.of hpc, atI_nat eiv, _, _, _, _, rfl, rfl, SqT.of hia, atI_nat (j := 1) rfl, q _ hcom⟩
end
end K34

set_option Elab.async false
set_option linter.all false
set_option maxRecDepth 100000
set_option maxHeartbeats 4000000
/-! D16: the law's machine: its word, its step. -/
namespace K34
open PySem PySem.Spec PyProof.Rows L2
open He (ga ma)
theorem ts_call (b : Bool) : decide (V.str (tsS b) = V.str "call") = false := by cases b <;> decide +kernel
theorem ts_pa (b : Bool) : inV (.str (tsS b)) [.str "put", .str "ask"] = false := by cases b <;> decide +kernel
theorem inv_n {x : V} {xs : List V} {b : Bool} (h : inV x xs = b) : (if true = true then !inV x xs else inV x xs) = !b := by rw [if_pos rfl, h]
theorem inv_p {x : V} {xs : List V} {b : Bool} (h : inV x xs = b) : (if false = true then !inV x xs else inV x xs) = b := by rw [if_neg (by decide), h]
theorem doneP_put {many : Nat} {st : PSt} {b x y : Sm} (h : nextP st.op = some (.put b x y)) : doneP many st = decide (0 ≤ val b st.held ∧ val b st.held < many) := by unfold doneP; rw [h]
theorem doneP_ask {many : Nat} {st : PSt} {c : Nat} {w : Wd} {s : Sm} (h : nextP st.op = some (.ask c w s)) : doneP many st = (decide (0 ≤ val s st.held ∧ val s st.held < many) && (decide (w = .width) || decide (w = .height) || (st.pos.getD (val s st.held).toNat none).isSome)) := by unfold doneP; rw [h]
theorem doneP_call {many : Nat} {st : PSt} {r : Nat} (h : nextP st.op = some (.call r)) : doneP many st = decide (st.op.length < 20) := by unfold doneP; rw [h]
theorem doneP_ite {many : Nat} {st : PSt} {t : Tst} {y n : List Stm} (h : nextP st.op = some (.ite t y n)) : doneP many st = true := by unfold doneP; rw [h]
theorem doneP_whl {many : Nat} {st : PSt} {t : Tst} {y : List Stm} (h : nextP st.op = some (.whl t y)) : doneP many st = true := by unfold doneP; rw [h]
theorem doneP_set {many : Nat} {st : PSt} {c : Nat} {z : Sm} (h : nextP st.op = some (.set c z)) : doneP many st = true := by unfold doneP; rw [h]
section
variable {P : Program} {w : World} {K : PySem.W.Frag} {mg : Str → Option Value} {base : Heap}
theorem ok_lword (T : Facts w K mg) : OkF P w K mg base CX0 2 "_law_word" ["_law_codes_here", "_law_sizes_here", "_law_state"] spLWord := by
  have G__law_worth := ok_lworth (P := P) (base := base) T
  have G__law_coming := ok_lcoming (P := P) (base := base) T
  refine T.d__law_word.ok sc__law_word bb__law_word (fun vs H Q E h => ?_) (fun f cdv A outer s H vs Q E hr h => ?_)
  · obtain ⟨_, _, _, _, _, _, _, rfl, _⟩ := h; rfl
  obtain ⟨cd, sz', v, cells, rs, zs, st, rfl, hc, hsz, hL, O, q⟩ := h
  have few := O.g.few
  have hgh := O.g.held
  have hgp := O.g.pos
  have c5 := O.c5
  obtain ⟨zvs, hzp, zl, hzg⟩ := hsz.get
  refine ⟨_, (pss_cons (ps_if (pt_cmpR op_eq (pe_callB call_len_seq (by rfl) T.b_len PySem.boot_len (pa_cons (pe_ix ix_tup (pv 2) pe_int (fun _ _ => rfl)) pa_nil)) pe_int (nomark _)) (pss_one (ps_ret pe_str)) pss_nil)
      (pss_cons (ps_set (i := 3) sc__law_word.nd rfl (Or.inl rfl) (pe_cal G__law_coming (hr.mono (by first | decide | omega)) (pa_cons (pv 0) (pa_cons (pv 2) pa_nil))))
      (pss_cons (ps_if (pt_cmpR op_eq (pe_ix ix_tup (pv 3) pe_int (fun _ _ => rfl)) pe_str (nomark _)) (pss_one (ps_ret (pe_ifExp (pt_cmpR op_eq (pe_callB call_len_seq (by rfl) T.b_len PySem.boot_len (pa_cons (pe_ix ix_tup (pv 2) pe_int (fun _ _ => rfl)) pa_nil)) pe_int (nomark _)) pe_str pe_str))) pss_nil)
      (pss_cons (ps_if (pt_cmpR op_notIn_seq (pe_ix ix_tup (pv 3) pe_int (fun _ _ => rfl)) (pe_tup (pa_cons pe_str (pa_cons pe_str pa_nil))) rfl) (pss_one (ps_ret pe_str)) pss_nil)
      (pss_cons (ps_set (i := 4) sc__law_word.nd rfl (Or.inl rfl) (pe_cal G__law_worth (hr.mono (by first | decide | omega)) (pa_cons (pe_ifExp (pt_cmpR op_eq (pe_ix ix_tup (pv 3) pe_int (fun _ _ => rfl)) pe_str (nomark _)) (pe_ix ix_tup (pv 3) pe_int (fun _ _ => rfl)) (pe_ix ix_tup (pv 3) pe_int (fun _ _ => rfl))) (pa_cons (pe_ix ix_tup (pv 2) pe_int (fun _ _ => rfl)) pa_nil))))
      (pss_cons (ps_if (pt_not (pt_chain op_le op_lt pe_int (pv 4) (pe_callB call_len_seq (by rfl) T.b_len PySem.boot_len (pa_cons (pv 1) pa_nil)))) (pss_one (ps_ret pe_str)) pss_nil)
      (pss_one (ps_ret (pe_ifExp (PW.pt (pw_and (pt_cmpR op_eq (pe_ix ix_tup (pv 3) pe_int (fun _ _ => rfl)) pe_str (nomark _)) (pw_and (pt_cmpR op_in_seq (pe_ix ix_tup (pv 3) pe_int (fun _ _ => rfl)) (pe_tup (pa_cons pe_str (pa_cons pe_str pa_nil))) rfl) (pw_and1 (pt_cmpR op_isN (pe_ix ix_tup (pe_ix ix_tup (pv 2) pe_int (fun _ _ => rfl)) (pv 4) (fun _ _ => rfl)) pe_non (nomark _)))))) pe_str pe_str))))))))), ?_⟩
  unfold wordP at q
  rcases hL.runs O.g.set_ with ⟨eo, a, p, vh, vp, rfl, ha, hp, hh, hP⟩ | ⟨sm, a, p, vh, vp, n, q', ls, vs, b, hn, rfl, ha, hh, hP, S, hp, hb, hv⟩
  · rw [eo, if_pos (show ([] : Opn).length = 0 from rfl)] at q
    exact ⟨_, rfl, _, _, _, _, rfl, rfl, SqT.of (ha), atI_nat (j := 0) rfl, p, _, rfl, .inr (SqT.of hp), rfl, _, rfl, itT (by decide) (q _ Same.refl')⟩
  · have hol : st.op.length ≠ 0 := by
      obtain ⟨_, _, _, _, _, eo, _⟩ := next_ex hn
      rw [eo]; simp
    rw [if_neg hol] at q
    have ok := S.ok hn O.R.ok
    have sl := S.len
    rw [List.length_cons] at sl
    have vl := hv.len
    refine ⟨_, rfl, _, _, _, _, rfl, rfl, SqT.of (ha), atI_nat (j := 0) rfl, p, _, rfl, .inr (SqT.of hp), rfl, _, rfl, itF (decide_eq_false ?_) ?_⟩
    · intro z
      have := V.int.inj z
      rw [List.length_append, List.length_singleton] at this
      omega
    refine ⟨_, rfl, _, rfl, cd, .ref a, rs, st, rfl, hc, hL, O.g.set_, fun v' hcom => ?_⟩
    rcases hcom with ⟨e, _⟩ | ⟨s', hn', hcom⟩
    · exact absurd (by rw [e]; rfl) hol
    rw [hn] at hn'
    cases hn'
    cases sm with
    | ite t y m =>
      rw [doneP_ite hn] at q
      obtain ⟨ta, t1, t2, rfl, hta, _⟩ := hcom
      refine ⟨_, rfl, _, _, _, _, rfl, rfl, SqT.of (hta), atI_nat (j := 0) rfl, rfl, _, rfl, itF (ts_call _) ⟨_, rfl, _, _, _, _, rfl, rfl, SqT.of (hta), atI_nat (j := 0) rfl, (by show 2 ≤ sizeLine; decide), fun l1 hl1 => ⟨l1, _, rfl, .inr (SqT.of upd_same), rfl, rfl, _, rfl, itT (inv_n (ts_pa _)) (q _ (Same.new hl1))⟩⟩⟩
    | whl t y =>
      rw [doneP_whl hn] at q
      obtain ⟨ta, t1, t2, rfl, hta, _⟩ := hcom
      refine ⟨_, rfl, _, _, _, _, rfl, rfl, SqT.of (hta), atI_nat (j := 0) rfl, rfl, _, rfl, itF (ts_call _) ⟨_, rfl, _, _, _, _, rfl, rfl, SqT.of (hta), atI_nat (j := 0) rfl, (by show 2 ≤ sizeLine; decide), fun l1 hl1 => ⟨l1, _, rfl, .inr (SqT.of upd_same), rfl, rfl, _, rfl, itT (inv_n (ts_pa _)) (q _ (Same.new hl1))⟩⟩⟩
    | set c z =>
      rw [doneP_set hn] at q
      have hcom : StA H (.set c z) v' := hcom
      obtain ⟨a0, xs0, rfl, ha0⟩ := hcom.head
      exact ⟨_, rfl, _, _, _, _, rfl, rfl, SqT.of (ha0), atI_nat (j := 0) rfl, rfl, _, rfl, itF (by rw [dec_call]) ⟨_, rfl, _, _, _, _, rfl, rfl, SqT.of (ha0), atI_nat (j := 0) rfl, (by show 2 ≤ sizeLine; decide), fun l1 hl1 => ⟨l1, _, rfl, .inr (SqT.of upd_same), rfl, rfl, _, rfl, itT (inv_n (b := false) (by rw [inv_pa])) (q _ (Same.new hl1))⟩⟩⟩
    | call r =>
      rw [doneP_call hn] at q
      have hcom : StA H (.call r) v' := hcom
      obtain ⟨a0, xs0, rfl, ha0⟩ := hcom.head
      refine ⟨_, rfl, _, _, _, _, rfl, rfl, SqT.of (ha0), atI_nat (j := 0) rfl, rfl, _, rfl, itT (by rw [dec_call]) ⟨_, rfl, _, _, _, _, rfl, rfl, SqT.of (ha), atI_nat (j := 0) rfl, p, _, rfl, .inr (SqT.of hp), rfl, _, rfl, ?_⟩⟩
      have hll : (vs.reverse ++ [V.ref b]).length = st.op.length := by rw [List.length_append, List.length_reverse, List.length_singleton, sl, vl]
      rw [hll]
      by_cases c20 : st.op.length = 20
      · refine itT (decide_eq_true (by rw [c20]; rfl)) ?_
        have := q _ Same.refl'
        rw [decide_eq_false (by omega)] at this
        exact this
      · refine itF (decide_eq_false fun z => c20 (by have := V.int.inj z; omega)) ?_
        have := q _ Same.refl'
        rw [decide_eq_true (by omega)] at this
        exact this
    | put bs x y =>
      rw [doneP_put hn] at q
      have hcom : StA H (.put bs x y) v' := hcom
      rw [StA] at hcom
      obtain ⟨a0, p1, p2, p3, rfl, hst, hbs, hx, hy⟩ := hcom
      rw [OkS] at ok
      refine ⟨_, rfl, _, _, _, _, rfl, rfl, SqT.of (hst), atI_nat (j := 0) rfl, rfl, _, rfl, itF (by decide +kernel) ⟨_, rfl, _, _, _, _, rfl, rfl, SqT.of (hst), atI_nat (j := 0) rfl, (by show 2 ≤ sizeLine; decide), fun l1 hl1 => ⟨l1, _, rfl, .inr (SqT.of upd_same), rfl, rfl, _, rfl, itF (inv_n (b := true) (by decide +kernel)) ?_⟩⟩⟩
      have g1 : Same H (upd H l1 (.tup [V.str "put", V.str "ask"])) := Same.new hl1
      refine ⟨_, rfl, _, _, _, _, rfl, rfl, SqT.of (g1.at_ hst), atI_nat (j := 0) rfl, rfl, _, rfl, itT (by decide +kernel) ⟨_, rfl, _, _, _, _, rfl, rfl, SqT.of (g1.at_ hst), atI_nat (j := 1) rfl, _, rfl, _, _, _, _, rfl, rfl, SqT.of (g1.at_ ha), atI_nat (j := 1) rfl, _, _, bs, st.held, rfl, hbs.mono (Same.tups g1), hh.mono (Same.tups g1), by rw [hgh]; exact ok.1.1, by omega, ok.1.2, fun H2 g2 => ?_⟩⟩
      have g12 := g1.trans g2
      have := q _ g12
      refine ⟨_, rfl, _, _, rfl, rfl, _, rfl, ?_⟩
      by_cases c0 : 0 ≤ val bs st.held
      · refine itT (decide_eq_true c0) ⟨_, rfl, sz', _, rfl, .inr (SqT.of (g12.at_ hzp)), _, _, rfl, rfl, _, rfl, ?_⟩
        by_cases c1 : val bs st.held < (zs.length : Int)
        · rw [decide_eq_true (show 0 ≤ val bs st.held ∧ val bs st.held < (zs.length : Int) from ⟨c0, c1⟩)] at this
          refine itF (by show (!decide (val bs st.held < (zvs.length : Int))) = false; rw [decide_eq_true (by omega)]; rfl) ?_
          exact ⟨_, rfl, _, _, _, _, rfl, rfl, SqT.of (g12.at_ hst), atI_nat (j := 0) rfl, rfl, _, rfl, itF (by decide +kernel) this⟩
        · rw [decide_eq_false (show ¬ (0 ≤ val bs st.held ∧ val bs st.held < (zs.length : Int)) from fun z => c1 z.2)] at this
          exact itT (by show (!decide (val bs st.held < (zvs.length : Int))) = true; rw [decide_eq_false (by omega)]; rfl) this
      · rw [decide_eq_false (show ¬ (0 ≤ val bs st.held ∧ val bs st.held < (zs.length : Int)) from fun z => c0 z.1)] at this
        exact itF (decide_eq_false c0) ⟨_, rfl, itT rfl this⟩
    | ask k wd z =>
      rw [doneP_ask hn] at q
      have hcom : StA H (.ask k wd z) v' := hcom
      rw [StA] at hcom
      obtain ⟨a0, p1, rfl, hst, hbs⟩ := hcom
      rw [OkS] at ok
      refine ⟨_, rfl, _, _, _, _, rfl, rfl, SqT.of (hst), atI_nat (j := 0) rfl, rfl, _, rfl, itF (by decide +kernel) ⟨_, rfl, _, _, _, _, rfl, rfl, SqT.of (hst), atI_nat (j := 0) rfl, (by show 2 ≤ sizeLine; decide), fun l1 hl1 => ⟨l1, _, rfl, .inr (SqT.of upd_same), rfl, rfl, _, rfl, itF (inv_n (b := true) (by decide +kernel)) ?_⟩⟩⟩
      have g1 : Same H (upd H l1 (.tup [V.str "put", V.str "ask"])) := Same.new hl1
      refine ⟨_, rfl, _, _, _, _, rfl, rfl, SqT.of (g1.at_ hst), atI_nat (j := 0) rfl, rfl, _, rfl, itF (by decide +kernel) ⟨_, rfl, _, _, _, _, rfl, rfl, SqT.of (g1.at_ hst), atI_nat (j := 3) rfl, _, rfl, _, _, _, _, rfl, rfl, SqT.of (g1.at_ ha), atI_nat (j := 1) rfl, _, _, z, st.held, rfl, hbs.mono (Same.tups g1), hh.mono (Same.tups g1), by rw [hgh]; exact ok.2.1, by omega, ok.2.2, fun H2 g2 => ?_⟩⟩
      have g12 := g1.trans g2
      refine ⟨_, rfl, _, _, rfl, rfl, _, rfl, ?_⟩
      by_cases c0 : 0 ≤ val z st.held
      · refine itT (decide_eq_true c0) ⟨_, rfl, sz', _, rfl, .inr (SqT.of (g12.at_ hzp)), _, _, rfl, rfl, _, rfl, ?_⟩
        by_cases c1 : val z st.held < (zs.length : Int)
        · refine itF (by show (!decide (val z st.held < (zvs.length : Int))) = false; rw [decide_eq_true (by omega)]; rfl) ?_
          refine ⟨_, rfl, _, _, _, _, rfl, rfl, SqT.of (g12.at_ hst), atI_nat (j := 0) rfl, rfl, _, rfl, itT (by decide +kernel) ⟨_, rfl, _, _, _, _, rfl, rfl, SqT.of (g12.at_ hst), atI_nat (j := 2) rfl, (by show 2 ≤ sizeLine; decide), fun l3 hl3 => ⟨l3, _, rfl, .inr (SqT.of upd_same), rfl, rfl, _, rfl, ?_⟩⟩⟩
          have g3 := Same.then_ g12 (o := .tup [V.str "left", V.str "top"]) hl3
          have := q _ g3
          rw [decide_eq_true (show 0 ≤ val z st.held ∧ val z st.held < (zs.length : Int) from ⟨c0, c1⟩)] at this
          obtain ⟨pa, pvs, rfl, hpa, pvl, hpg⟩ := PosA.get hP
          have hkn : (val z st.held).toNat < st.pos.length := by omega
          obtain ⟨x, ex, hx⟩ := hpg hkn
          have ek : val z st.held = (((val z st.held).toNat : Nat) : Int) := by omega
          have last : (st.pos.getD (val z st.held).toNat none).isSome = !decide (x = V.non) := by
            cases e : st.pos.getD (val z st.held).toNat none with
            | none => rw [e] at hx; have hx : x = V.non := hx; rw [hx]; rfl
            | some y => rw [e] at hx; obtain ⟨xa, rfl, _⟩ := hx; rfl
          cases wd with
          | width => exact itF (inv_p (by decide +kernel)) this
          | height => exact itF (inv_p (by decide +kernel)) this
          | left =>
            refine itT (inv_p (by decide +kernel)) ⟨_, rfl, _, _, _, _, rfl, rfl, SqT.of (g3.at_ ha), atI_nat (j := 2) rfl, _, rfl, _, _, _, _, rfl, rfl, SqT.of (g3.at_ hpa), at_ix ek ex, rfl, _, rfl, ?_⟩
            rw [last] at this
            cases ed : decide (x = V.non) with
            | true => rw [ed] at this; exact itT rfl this
            | false => rw [ed] at this; exact itF rfl this
          | top =>
            refine itT (inv_p (by decide +kernel)) ⟨_, rfl, _, _, _, _, rfl, rfl, SqT.of (g3.at_ ha), atI_nat (j := 2) rfl, _, rfl, _, _, _, _, rfl, rfl, SqT.of (g3.at_ hpa), at_ix ek ex, rfl, _, rfl, ?_⟩
            rw [last] at this
            cases ed : decide (x = V.non) with
            | true => rw [ed] at this; exact itT rfl this
            | false => rw [ed] at this; exact itF rfl this
        · have := q _ g12
          rw [decide_eq_false (show ¬ (0 ≤ val z st.held ∧ val z st.held < (zs.length : Int)) from fun z => c1 z.2)] at this
          exact itT (by show (!decide (val z st.held < (zvs.length : Int))) = true; rw [decide_eq_false (by omega)]; rfl) this
      · have := q _ g12
        rw [decide_eq_false (show ¬ (0 ≤ val z st.held ∧ val z st.held < (zs.length : Int)) from fun z => c0 z.1)] at this
        exact itF (decide_eq_false c0) ⟨_, rfl, itT rfl this⟩
theorem ok_lasked (T : Facts w K mg) : OkF P w K mg base CX0 2 "_law_asked" ["_law_sizes_here", "_law_statement_here", "_law_held", "_law_put"] spLAsked := by
  have G__law_worth := ok_lworth (P := P) (base := base) T
  refine T.d__law_asked.ok sc__law_asked bb__law_asked (fun vs H Q E h => ?_) (fun f cdv A outer s H vs Q E hr h => ?_)
  · obtain ⟨_, _, _, _, _, _, _, _, _, _, rfl, _⟩ := h; rfl
  obtain ⟨sz', sv, u, v, zs, pos, c, wd, z, hd, rfl, hsz, hs, hu, hP, okz, h5, v0, v1, hw, q⟩ := h
  obtain ⟨zvs, hzp, zl, hzg⟩ := hsz.get
  rw [StA] at hs
  obtain ⟨a0, p1, rfl, hst, hz⟩ := hs
  have ek : val z hd = (((val z hd).toNat : Nat) : Int) := by omega
  obtain ⟨za, ez, hza⟩ := hzg (k := (val z hd).toNat) (by omega)
  refine ⟨_, (pss_cons (ps_set (i := 4) sc__law_asked.nd rfl (Or.inl rfl) (pe_cal G__law_worth (hr.mono (by first | decide | omega)) (pa_cons (pe_ix ix_tup (pv 1) pe_int (fun _ _ => rfl)) (pa_cons (pv 2) pa_nil))))
      (pss_cons (ps_if (pt_cmpR op_in_seq (pe_ix ix_tup (pv 1) pe_int (fun _ _ => rfl)) (pe_tup (pa_cons pe_str (pa_cons pe_str pa_nil))) rfl) (pss_one (ps_ret (pe_ix ix_tup (pe_ix ix_tup (pv 0) (pv 4) (fun _ _ => rfl)) (pe_callTy call_int1 (by rfl) T.b_int bv_int (pa_cons (pe_cmpR op_eq (pe_ix ix_tup (pv 1) pe_int (fun _ _ => rfl)) pe_str (nomark _)) pa_nil)) (fun _ _ => rfl)))) pss_nil)
      (pss_one (ps_ret (pe_ix ix_tup (pe_ix ix_tup (pv 3) (pv 4) (fun _ _ => rfl)) (pe_callTy call_int1 (by rfl) T.b_int bv_int (pa_cons (pe_cmpR op_eq (pe_ix ix_tup (pv 1) pe_int (fun _ _ => rfl)) pe_str (nomark _)) pa_nil)) (fun _ _ => rfl)))))), ?_⟩
  refine ⟨_, rfl, _, _, _, _, rfl, rfl, SqT.of (hst), atI_nat (j := 3) rfl, _, rfl, _, _, z, hd, rfl, hz, hu, okz.1, h5, okz.2, fun H1 g1 => ?_⟩
  refine ⟨_, rfl, _, _, _, _, rfl, rfl, SqT.of (g1.at_ hst), atI_nat (j := 2) rfl, (by show 2 ≤ sizeLine; decide), fun l2 hl2 => ⟨l2, _, rfl, .inr (SqT.of upd_same), rfl, rfl, _, rfl, ?_⟩⟩
  have g2 := Same.then_ g1 (o := .tup [V.str "width", V.str "height"]) hl2
  have := q _ g2
  cases wd with
  | width => exact itT (inv_p (by decide +kernel)) ⟨_, rfl, _, rfl, _, _, _, _, rfl, rfl, SqT.of (g2.at_ hzp), at_ix ek ez, _, rfl, _, _, _, _, rfl, rfl, SqT.of (g2.at_ hst), atI_nat (j := 2) rfl, rfl, .inr ⟨_, rfl, _, _, _, _, rfl, rfl, SqT.of (g2.at_ hza), at_ix (i := 0) (by decide +kernel) rfl, this⟩⟩
  | height => exact itT (inv_p (by decide +kernel)) ⟨_, rfl, _, rfl, _, _, _, _, rfl, rfl, SqT.of (g2.at_ hzp), at_ix ek ez, _, rfl, _, _, _, _, rfl, rfl, SqT.of (g2.at_ hst), atI_nat (j := 2) rfl, rfl, .inr ⟨_, rfl, _, _, _, _, rfl, rfl, SqT.of (g2.at_ hza), at_ix (i := 1) (by decide +kernel) rfl, this⟩⟩
  | left =>
    obtain ⟨y, hy⟩ : ∃ y, pos[(val z hd).toNat]? = some (some y) := by
      rcases hw with e | e | e
      · cases e
      · cases e
      · exact e
    obtain ⟨pa, pvs, rfl, hpa, pl⟩ := hP
    obtain ⟨x, ex, xa, rfl, hxa⟩ := pl.get hy
    have ed : pos.getD (val z hd).toNat none = some y := by rw [List.getD_eq_getElem?_getD, hy]; rfl
    unfold askedP at this
    rw [ed] at this
    exact itF (inv_p (by decide +kernel)) ⟨_, rfl, _, rfl, _, _, _, _, rfl, rfl, SqT.of (g2.at_ hpa), at_ix ek ex, _, rfl, _, _, _, _, rfl, rfl, SqT.of (g2.at_ hst), atI_nat (j := 2) rfl, rfl, .inr ⟨_, rfl, _, _, _, _, rfl, rfl, SqT.of (g2.at_ hxa), at_ix (i := 0) (by decide +kernel) rfl, this⟩⟩
  | top =>
    obtain ⟨y, hy⟩ : ∃ y, pos[(val z hd).toNat]? = some (some y) := by
      rcases hw with e | e | e
      · cases e
      · cases e
      · exact e
    obtain ⟨pa, pvs, rfl, hpa, pl⟩ := hP
    obtain ⟨x, ex, xa, rfl, hxa⟩ := pl.get hy
    have ed : pos.getD (val z hd).toNat none = some y := by rw [List.getD_eq_getElem?_getD, hy]; rfl
    unfold askedP at this
    rw [ed] at this
    exact itF (inv_p (by decide +kernel)) ⟨_, rfl, _, rfl, _, _, _, _, rfl, rfl, SqT.of (g2.at_ hpa), at_ix ek ex, _, rfl, _, _, _, _, rfl, rfl, SqT.of (g2.at_ hst), atI_nat (j := 2) rfl, rfl, .inr ⟨_, rfl, _, _, _, _, rfl, rfl, SqT.of (g2.at_ hxa), at_ix (i := 1) (by decide +kernel) rfl, this⟩⟩
end
end K34

set_option Elab.async false
set_option linter.all false
set_option maxRecDepth 100000
set_option maxHeartbeats 4000000
/-! D17: the law's machine: its step. -/
namespace K34
open PySem PySem.Spec PyProof.Rows L2
open He (ga ma)
section
variable {P : Program} {w : World} {K : PySem.W.Frag} {mg : Str → Option Value} {base : Heap}
theorem ok_lstepped (T : Facts w K mg) : OkF P w K mg base CX0 3 "_law_stepped" ["_law_codes_here", "_law_sizes_here", "_law_state"] spLStep := by
  have G__law_worth := ok_lworth (P := P) (base := base) T
  have G__law_settled := ok_lsettled (P := P) (base := base) T
  have G__law_asked := ok_lasked (P := P) (base := base) T
  refine T.d__law_stepped.ok sc__law_stepped bb__law_stepped (fun vs H Q E h => ?_) (fun f cdv A outer s H vs Q E hr h => ?_)
  · obtain ⟨_, _, _, _, _, _, _, rfl, _⟩ := h; rfl
  obtain ⟨cd, sz', v, cells, rs, zs, st, rfl, hc, hsz, hL, O, hw, qq⟩ := h
  have few := O.g.few
  have hgh := O.g.held
  have hgp := O.g.pos
  have c5 := O.c5
  have m4 := O.m4
  have hdone := (doneP_runs hw).1
  refine ⟨_, (pss_cons (ps_asg (pv 2) (pg_tup rfl (pgs_cons (pg_name (i := 3) sc__law_stepped.nd rfl (Or.inl rfl)) (pgs_cons (pg_name (i := 4) sc__law_stepped.nd rfl (Or.inl rfl)) (pgs_cons (pg_name (i := 5) sc__law_stepped.nd rfl (Or.inl rfl)) pgs_nil)))))
      (pss_cons (ps_asg (pe_ix ix_tup (pv 3) (pe_un un_neg pe_int) (fun _ _ => rfl)) (pg_tup rfl (pgs_cons (pg_name (i := 6) sc__law_stepped.nd rfl (Or.inl rfl)) (pgs_cons (pg_name (i := 7) sc__law_stepped.nd rfl (Or.inl rfl)) pgs_nil))))
      (pss_cons (ps_set (i := 8) sc__law_stepped.nd rfl (Or.inl rfl) (pe_ix ix_list (pe_ix ix_list (pv 0) (pv 6) (fun _ _ => rfl)) (pv 7) (fun _ _ => rfl)))
      (pss_cons (ps_if (pt_cmpR op_eq (pe_ix ix_tup (pv 8) pe_int (fun _ _ => rfl)) pe_str (nomark _)) (pss_cons (ps_par (i := 9) (j := 10) rfl sc__law_stepped.nd rfl rfl (by decide) rfl rfl (pa_cons (pe_cal G__law_worth (hr.mono (by first | decide | omega)) (pa_cons (pe_ix ix_tup (pe_ix ix_tup (pv 8) pe_int (fun _ _ => rfl)) pe_int (fun _ _ => rfl)) (pa_cons (pv 4) pa_nil))) (pa_cons (pe_cal G__law_worth (hr.mono (by first | decide | omega)) (pa_cons (pe_ix ix_tup (pe_ix ix_tup (pv 8) pe_int (fun _ _ => rfl)) pe_int (fun _ _ => rfl)) (pa_cons (pv 4) pa_nil))) pa_nil)) (by rfl))
      (pss_cons (ps_set (i := 11) sc__law_stepped.nd rfl (Or.inl rfl) (pe_ifExp (pt_cmpR op_eq (pe_ix ix_tup (pe_ix ix_tup (pv 8) pe_int (fun _ _ => rfl)) pe_int (fun _ _ => rfl)) pe_str (nomark _)) (pe_cmpR op_lt (pv 9) (pv 10) (nomark _)) (pe_cmpR op_eq (pv 9) (pv 10) (nomark _))))
      (pss_one (ps_ret (pe_tup (pa_cons (pe_cal G__law_settled (hr.mono (by first | decide | omega)) (pa_cons (pv 0) (pa_cons (pe_op op_catU (pe_slice sl_tupU (pv 3) po_none (po_some (pe_un un_neg pe_int))) (pe_tup (pa_cons (pe_tup (pa_cons (pv 6) (pa_cons (pe_ifExp (pt_val (pv 11)) (pe_op op_add (pv 7) pe_int) (pe_ix ix_tup (pv 8) pe_int (fun _ _ => rfl))) pa_nil))) pa_nil))) pa_nil))) (pa_cons (pv 4) (pa_cons (pv 5) pa_nil)))))))) pss_nil)
      (pss_cons (ps_set (i := 12) sc__law_stepped.nd rfl (Or.inl rfl) (pe_ix ix_tup (pv 8) pe_int (fun _ _ => rfl)))
      (pss_cons (ps_set (i := 3) sc__law_stepped.nd rfl (Or.inl rfl) (pe_op op_catU (pe_slice sl_tupU (pv 3) po_none (po_some (pe_un un_neg pe_int))) (pe_tup (pa_cons (pe_tup (pa_cons (pv 6) (pa_cons (pe_op op_add (pv 7) pe_int) pa_nil))) pa_nil))))
      (pss_cons (ps_if (pt_cmpR op_eq (pe_ix ix_tup (pv 12) pe_int (fun _ _ => rfl)) pe_str (nomark _)) (pss_one (ps_set (i := 3) sc__law_stepped.nd rfl (Or.inl rfl) (pe_op op_catU (pv 3) (pe_tup (pa_cons (pe_tup (pa_cons (pe_ix ix_tup (pv 12) pe_int (fun _ _ => rfl)) (pa_cons pe_int pa_nil))) pa_nil))))) (pss_one (ps_if (pt_cmpR op_eq (pe_ix ix_tup (pv 12) pe_int (fun _ _ => rfl)) pe_str (nomark _)) (pss_cons (ps_set (i := 13) sc__law_stepped.nd rfl (Or.inl rfl) (pe_cal G__law_worth (hr.mono (by first | decide | omega)) (pa_cons (pe_ix ix_tup (pv 12) pe_int (fun _ _ => rfl)) (pa_cons (pv 4) pa_nil))))
      (pss_cons (ps_set (i := 14) sc__law_stepped.nd rfl (Or.inl rfl) (pe_tup (pa_cons (pe_cal G__law_worth (hr.mono (by first | decide | omega)) (pa_cons (pe_ix ix_tup (pv 12) pe_int (fun _ _ => rfl)) (pa_cons (pv 4) pa_nil))) (pa_cons (pe_cal G__law_worth (hr.mono (by first | decide | omega)) (pa_cons (pe_ix ix_tup (pv 12) pe_int (fun _ _ => rfl)) (pa_cons (pv 4) pa_nil))) pa_nil))))
      (pss_one (ps_set (i := 5) sc__law_stepped.nd rfl (Or.inl rfl) (pe_op op_catU (pe_op op_catU (pe_slice sl_tupU (pv 5) po_none (po_some (pv 13))) (pe_tup (pa_cons (pv 14) pa_nil))) (pe_slice sl_tupU (pv 5) (po_some (pe_op op_add (pv 13) pe_int)) po_none)))))) (pss_cons (ps_set (i := 15) sc__law_stepped.nd rfl (Or.inl rfl) (pe_ix ix_tup (pv 12) pe_int (fun _ _ => rfl)))
      (pss_cons (ps_set (i := 16) sc__law_stepped.nd rfl (Or.inl rfl) (pe_ifExp (pt_cmpR op_eq (pe_ix ix_tup (pv 12) pe_int (fun _ _ => rfl)) pe_str (nomark _)) (pe_cal G__law_worth (hr.mono (by first | decide | omega)) (pa_cons (pe_ix ix_tup (pv 12) pe_int (fun _ _ => rfl)) (pa_cons (pv 4) pa_nil))) (pe_cal G__law_asked (hr.mono (by first | decide | omega)) (pa_cons (pv 1) (pa_cons (pv 12) (pa_cons (pv 4) (pa_cons (pv 5) pa_nil)))))))
      (pss_one (ps_set (i := 4) sc__law_stepped.nd rfl (Or.inl rfl) (pe_op op_catU (pe_op op_catU (pe_slice sl_tupU (pv 4) po_none (po_some (pv 15))) (pe_tup (pa_cons (pv 16) pa_nil))) (pe_slice sl_tupU (pv 4) (po_some (pe_op op_add (pv 15) pe_int)) po_none)))))))))
      (pss_one (ps_ret (pe_tup (pa_cons (pe_cal G__law_settled (hr.mono (by first | decide | omega)) (pa_cons (pv 0) (pa_cons (pv 3) pa_nil))) (pa_cons (pv 4) (pa_cons (pv 5) pa_nil))))))))))))), ?_⟩
  rcases hL.runs O.g.set_ with ⟨eo, _⟩ | ⟨sm, a, p, vh, vp, n, q, ls, vs, b, hn, rfl, ha, hh, hP, S, hp, hb, hv⟩
  · exact absurd eo (doneP_runs hw).2
  have ok := S.ok hn O.R.ok
  have sl := S.len
  rw [List.length_cons] at sl
  have vl := hv.len
  obtain ⟨hnn, seg⟩ := S.item hn
  obtain ⟨cs, hcs, hg⟩ := hc.get
  obtain ⟨pc, cvs, ecs, hpc, hit⟩ := hg hnn
  obtain ⟨iv, eiv, hiv⟩ := hit.get (hdI_seg seg)
  have S1 := S.uns (held := st.held) hn ok
  have W := walked_uns (rs := rs) (held := st.held) hn
  refine ⟨_, rfl, _, _, rfl, SqT.of ha, rfl, _, _, rfl, _, _, rfl, _, _, rfl, rfl, ?_⟩
  refine ⟨_, rfl, _, rfl, _, _, _, _, rfl, rfl, SqT.of (hp), at_last rfl, _, _, rfl, SqT.of hb, rfl, _, _, rfl, _, _, rfl, rfl, ?_⟩
  refine ⟨_, rfl, _, rfl, _, _, _, _, rfl, rfl, SqL.of hcs, atI_nat ecs, _, rfl, _, _, _, _, rfl, rfl, SqL.of hpc, atI_nat eiv, ?_⟩
  cases sm with
  | ite t y m =>
    obtain ⟨ia, tq, rfl, hia, ta, t1, t2, rfl, hta, ht1, ht2⟩ := hiv
    rw [OkS] at ok
    have okt := ok.1
    refine ⟨_, rfl, _, _, _, _, rfl, rfl, SqT.of (hia), atI_nat (j := 0) rfl, rfl, _, rfl, itT (by decide +kernel) ?_⟩
    refine ⟨_, rfl, _, _, _, _, rfl, rfl, SqT.of (hia), atI_nat (j := 1) rfl, _, _, _, _, rfl, rfl, SqT.of hta, atI_nat (j := 1) rfl, _, rfl, _, _, t.a, st.held, rfl, ht1, hh, by rw [hgh]; exact okt.1.1, by omega, okt.1.2, fun H1 g1 => ?_⟩
    refine ⟨_, rfl, _, _, _, _, rfl, rfl, SqT.of (g1.at_ hia), atI_nat (j := 1) rfl, _, _, _, _, rfl, rfl, SqT.of (g1.at_ hta), atI_nat (j := 2) rfl, _, rfl, _, _, t.b, st.held, rfl, ht2.mono (Same.tups g1), hh.mono (Same.tups g1), by rw [hgh]; exact okt.2.1, by omega, okt.2.2, fun H2 g2 => ?_⟩
    have g12 := g1.trans g2
    refine ⟨_, _, rfl, _, rfl, _, _, _, _, rfl, rfl, SqT.of (g12.at_ hia), atI_nat (j := 1) rfl, _, _, _, _, rfl, rfl, SqT.of (g12.at_ hta), atI_nat (j := 0) rfl, rfl, _, rfl, ?_⟩
    cases hl : t.less with
    | true =>
      refine itT (by rw [show tsS true = "less" from rfl]; decide +kernel) ⟨_, rfl, _, rfl, _, _, rfl, rfl, ?_⟩
      have hld : holds t st.held = decide (val t.a st.held < val t.b st.held) := by unfold holds; rw [hl]; rfl
      refine ⟨_, rfl, _, rfl, _, rfl, _, rfl, p, _, rfl, g12.at_ hp, fun p3 H3 g3 e3 => ?_⟩
      rw [cut_init rfl] at e3
      have g13 := g12.trans g3
      refine ⟨_, rfl, _, rfl, _, rfl, ?_⟩
      unfold lstP at S1
      dsimp only at S1
      cases hh2 : holds t st.held with
      | true =>
        rw [hh2] at S1
        refine itT (hld.symm.trans hh2) ⟨_, rfl, _, _, rfl, rfl, (by show 2 ≤ sizeLine; decide), fun p4 hp4 => ⟨(by show 1 ≤ sizeLine; decide), fun p5 hp5 => ?_⟩⟩
        have g5 := Same.then_ (Same.new (o := .tup [V.int (n : Int), V.int ((q : Int) + 1)]) hp4) (o := .tup [V.ref p4]) hp5
        refine ⟨p3, p5, _, _, rfl, rfl, g5.at_ e3, upd_same, by rw [List.length_reverse, List.length_singleton]; omega, fun p6 H6 g6 e6 => ?_⟩
        have g16 := g13.trans (g5.trans g6)
        refine ⟨cd, p6, rs, _, (n, (q + 1)) :: ls, rfl, hc.same g16, StkA.of e6 (g6.at_ (newAt upd_same hp5)) (hv.mono fun _ _ ⟨a, e, r⟩ => ⟨a, e, g16.at_ r⟩), S1, by rw [List.length_cons]; omega, fun p7 l7 H7 g7 hs7 S7 => ?_⟩
        refine ⟨_, rfl, _, rfl, (by show 3 ≤ sizeLine; decide), fun p8 hp8 => ?_⟩
        have g8 : Same H7 (upd H7 p8 (.tup [V.ref p7, vh, vp])) := Same.new hp8
        have g18 := g16.trans (g7.trans g8)
        refine qq _ _ g18 ?_
        rw [behind_else hn rfl]
        exact ⟨p8, p7, vh, vp, l7, rfl, upd_same, hs7.mono (Same.tups g8), by rw [W]; exact S7, hh.mono (Same.tups g18), hP.mono (Same.tups g18)⟩
      | false =>
        rw [hh2] at S1
        refine itF (hld.symm.trans hh2) ⟨_, rfl, _, _, _, _, rfl, rfl, SqT.of (g13.at_ hia), atI_nat (j := 2) rfl, (by show 2 ≤ sizeLine; decide), fun p4 hp4 => ⟨(by show 1 ≤ sizeLine; decide), fun p5 hp5 => ?_⟩⟩
        have g5 := Same.then_ (Same.new (o := .tup [V.int (n : Int), V.int ((q + 1 + (flatB (q + 1) y).length + 1 : Nat) : Int)]) hp4) (o := .tup [V.ref p4]) hp5
        refine ⟨p3, p5, _, _, rfl, rfl, g5.at_ e3, upd_same, by rw [List.length_reverse, List.length_singleton]; omega, fun p6 H6 g6 e6 => ?_⟩
        have g16 := g13.trans (g5.trans g6)
        refine ⟨cd, p6, rs, _, (n, (q + 1 + (flatB (q + 1) y).length + 1)) :: ls, rfl, hc.same g16, StkA.of e6 (g6.at_ (newAt upd_same hp5)) (hv.mono fun _ _ ⟨a, e, r⟩ => ⟨a, e, g16.at_ r⟩), S1, by rw [List.length_cons]; omega, fun p7 l7 H7 g7 hs7 S7 => ?_⟩
        refine ⟨_, rfl, _, rfl, (by show 3 ≤ sizeLine; decide), fun p8 hp8 => ?_⟩
        have g8 : Same H7 (upd H7 p8 (.tup [V.ref p7, vh, vp])) := Same.new hp8
        have g18 := g16.trans (g7.trans g8)
        refine qq _ _ g18 ?_
        rw [behind_else hn rfl]
        exact ⟨p8, p7, vh, vp, l7, rfl, upd_same, hs7.mono (Same.tups g8), by rw [W]; exact S7, hh.mono (Same.tups g18), hP.mono (Same.tups g18)⟩
    | false =>
      refine itF (by rw [show tsS false = "same" from rfl]; decide +kernel) ⟨_, rfl, _, rfl, rfl, ?_⟩
      have hld : holds t st.held = decide (V.int (val t.a st.held) = V.int (val t.b st.held)) := by unfold holds; rw [hl]; exact decide_eq_decide.mpr ⟨congrArg _, V.int.inj⟩
      refine ⟨_, rfl, _, rfl, _, rfl, _, rfl, p, _, rfl, g12.at_ hp, fun p3 H3 g3 e3 => ?_⟩
      rw [cut_init rfl] at e3
      have g13 := g12.trans g3
      refine ⟨_, rfl, _, rfl, _, rfl, ?_⟩
      unfold lstP at S1
      dsimp only at S1
      cases hh2 : holds t st.held with
      | true =>
        rw [hh2] at S1
        refine itT (hld.symm.trans hh2) ⟨_, rfl, _, _, rfl, rfl, (by show 2 ≤ sizeLine; decide), fun p4 hp4 => ⟨(by show 1 ≤ sizeLine; decide), fun p5 hp5 => ?_⟩⟩
        have g5 := Same.then_ (Same.new (o := .tup [V.int (n : Int), V.int ((q : Int) + 1)]) hp4) (o := .tup [V.ref p4]) hp5
        refine ⟨p3, p5, _, _, rfl, rfl, g5.at_ e3, upd_same, by rw [List.length_reverse, List.length_singleton]; omega, fun p6 H6 g6 e6 => ?_⟩
        have g16 := g13.trans (g5.trans g6)
        refine ⟨cd, p6, rs, _, (n, (q + 1)) :: ls, rfl, hc.same g16, StkA.of e6 (g6.at_ (newAt upd_same hp5)) (hv.mono fun _ _ ⟨a, e, r⟩ => ⟨a, e, g16.at_ r⟩), S1, by rw [List.length_cons]; omega, fun p7 l7 H7 g7 hs7 S7 => ?_⟩
        refine ⟨_, rfl, _, rfl, (by show 3 ≤ sizeLine; decide), fun p8 hp8 => ?_⟩
        have g8 : Same H7 (upd H7 p8 (.tup [V.ref p7, vh, vp])) := Same.new hp8
        have g18 := g16.trans (g7.trans g8)
        refine qq _ _ g18 ?_
        rw [behind_else hn rfl]
        exact ⟨p8, p7, vh, vp, l7, rfl, upd_same, hs7.mono (Same.tups g8), by rw [W]; exact S7, hh.mono (Same.tups g18), hP.mono (Same.tups g18)⟩
      | false =>
        rw [hh2] at S1
        refine itF (hld.symm.trans hh2) ⟨_, rfl, _, _, _, _, rfl, rfl, SqT.of (g13.at_ hia), atI_nat (j := 2) rfl, (by show 2 ≤ sizeLine; decide), fun p4 hp4 => ⟨(by show 1 ≤ sizeLine; decide), fun p5 hp5 => ?_⟩⟩
        have g5 := Same.then_ (Same.new (o := .tup [V.int (n : Int), V.int ((q + 1 + (flatB (q + 1) y).length + 1 : Nat) : Int)]) hp4) (o := .tup [V.ref p4]) hp5
        refine ⟨p3, p5, _, _, rfl, rfl, g5.at_ e3, upd_same, by rw [List.length_reverse, List.length_singleton]; omega, fun p6 H6 g6 e6 => ?_⟩
        have g16 := g13.trans (g5.trans g6)
        refine ⟨cd, p6, rs, _, (n, (q + 1 + (flatB (q + 1) y).length + 1)) :: ls, rfl, hc.same g16, StkA.of e6 (g6.at_ (newAt upd_same hp5)) (hv.mono fun _ _ ⟨a, e, r⟩ => ⟨a, e, g16.at_ r⟩), S1, by rw [List.length_cons]; omega, fun p7 l7 H7 g7 hs7 S7 => ?_⟩
        refine ⟨_, rfl, _, rfl, (by show 3 ≤ sizeLine; decide), fun p8 hp8 => ?_⟩
        have g8 : Same H7 (upd H7 p8 (.tup [V.ref p7, vh, vp])) := Same.new hp8
        have g18 := g16.trans (g7.trans g8)
        refine qq _ _ g18 ?_
        rw [behind_else hn rfl]
        exact ⟨p8, p7, vh, vp, l7, rfl, upd_same, hs7.mono (Same.tups g8), by rw [W]; exact S7, hh.mono (Same.tups g18), hP.mono (Same.tups g18)⟩
  | whl t y =>
    obtain ⟨ia, tq, rfl, hia, ta, t1, t2, rfl, hta, ht1, ht2⟩ := hiv
    rw [OkS] at ok
    have okt := ok.1
    refine ⟨_, rfl, _, _, _, _, rfl, rfl, SqT.of (hia), atI_nat (j := 0) rfl, rfl, _, rfl, itT (by decide +kernel) ?_⟩
    refine ⟨_, rfl, _, _, _, _, rfl, rfl, SqT.of (hia), atI_nat (j := 1) rfl, _, _, _, _, rfl, rfl, SqT.of hta, atI_nat (j := 1) rfl, _, rfl, _, _, t.a, st.held, rfl, ht1, hh, by rw [hgh]; exact okt.1.1, by omega, okt.1.2, fun H1 g1 => ?_⟩
    refine ⟨_, rfl, _, _, _, _, rfl, rfl, SqT.of (g1.at_ hia), atI_nat (j := 1) rfl, _, _, _, _, rfl, rfl, SqT.of (g1.at_ hta), atI_nat (j := 2) rfl, _, rfl, _, _, t.b, st.held, rfl, ht2.mono (Same.tups g1), hh.mono (Same.tups g1), by rw [hgh]; exact okt.2.1, by omega, okt.2.2, fun H2 g2 => ?_⟩
    have g12 := g1.trans g2
    refine ⟨_, _, rfl, _, rfl, _, _, _, _, rfl, rfl, SqT.of (g12.at_ hia), atI_nat (j := 1) rfl, _, _, _, _, rfl, rfl, SqT.of (g12.at_ hta), atI_nat (j := 0) rfl, rfl, _, rfl, ?_⟩
    cases hl : t.less with
    | true =>
      refine itT (by rw [show tsS true = "less" from rfl]; decide +kernel) ⟨_, rfl, _, rfl, _, _, rfl, rfl, ?_⟩
      have hld : holds t st.held = decide (val t.a st.held < val t.b st.held) := by unfold holds; rw [hl]; rfl
      refine ⟨_, rfl, _, rfl, _, rfl, _, rfl, p, _, rfl, g12.at_ hp, fun p3 H3 g3 e3 => ?_⟩
      rw [cut_init rfl] at e3
      have g13 := g12.trans g3
      refine ⟨_, rfl, _, rfl, _, rfl, ?_⟩
      unfold lstP at S1
      dsimp only at S1
      cases hh2 : holds t st.held with
      | true =>
        rw [hh2] at S1
        refine itT (hld.symm.trans hh2) ⟨_, rfl, _, _, rfl, rfl, (by show 2 ≤ sizeLine; decide), fun p4 hp4 => ⟨(by show 1 ≤ sizeLine; decide), fun p5 hp5 => ?_⟩⟩
        have g5 := Same.then_ (Same.new (o := .tup [V.int (n : Int), V.int ((q : Int) + 1)]) hp4) (o := .tup [V.ref p4]) hp5
        refine ⟨p3, p5, _, _, rfl, rfl, g5.at_ e3, upd_same, by rw [List.length_reverse, List.length_singleton]; omega, fun p6 H6 g6 e6 => ?_⟩
        have g16 := g13.trans (g5.trans g6)
        refine ⟨cd, p6, rs, _, (n, (q + 1)) :: ls, rfl, hc.same g16, StkA.of e6 (g6.at_ (newAt upd_same hp5)) (hv.mono fun _ _ ⟨a, e, r⟩ => ⟨a, e, g16.at_ r⟩), S1, by rw [List.length_cons]; omega, fun p7 l7 H7 g7 hs7 S7 => ?_⟩
        refine ⟨_, rfl, _, rfl, (by show 3 ≤ sizeLine; decide), fun p8 hp8 => ?_⟩
        have g8 : Same H7 (upd H7 p8 (.tup [V.ref p7, vh, vp])) := Same.new hp8
        have g18 := g16.trans (g7.trans g8)
        refine qq _ _ g18 ?_
        rw [behind_else hn rfl]
        exact ⟨p8, p7, vh, vp, l7, rfl, upd_same, hs7.mono (Same.tups g8), by rw [W]; exact S7, hh.mono (Same.tups g18), hP.mono (Same.tups g18)⟩
      | false =>
        rw [hh2] at S1
        refine itF (hld.symm.trans hh2) ⟨_, rfl, _, _, _, _, rfl, rfl, SqT.of (g13.at_ hia), atI_nat (j := 2) rfl, (by show 2 ≤ sizeLine; decide), fun p4 hp4 => ⟨(by show 1 ≤ sizeLine; decide), fun p5 hp5 => ?_⟩⟩
        have g5 := Same.then_ (Same.new (o := .tup [V.int (n : Int), V.int ((q + 1 + (flatB (q + 1) y).length + 1 : Nat) : Int)]) hp4) (o := .tup [V.ref p4]) hp5
        refine ⟨p3, p5, _, _, rfl, rfl, g5.at_ e3, upd_same, by rw [List.length_reverse, List.length_singleton]; omega, fun p6 H6 g6 e6 => ?_⟩
        have g16 := g13.trans (g5.trans g6)
        refine ⟨cd, p6, rs, _, (n, (q + 1 + (flatB (q + 1) y).length + 1)) :: ls, rfl, hc.same g16, StkA.of e6 (g6.at_ (newAt upd_same hp5)) (hv.mono fun _ _ ⟨a, e, r⟩ => ⟨a, e, g16.at_ r⟩), S1, by rw [List.length_cons]; omega, fun p7 l7 H7 g7 hs7 S7 => ?_⟩
        refine ⟨_, rfl, _, rfl, (by show 3 ≤ sizeLine; decide), fun p8 hp8 => ?_⟩
        have g8 : Same H7 (upd H7 p8 (.tup [V.ref p7, vh, vp])) := Same.new hp8
        have g18 := g16.trans (g7.trans g8)
        refine qq _ _ g18 ?_
        rw [behind_else hn rfl]
        exact ⟨p8, p7, vh, vp, l7, rfl, upd_same, hs7.mono (Same.tups g8), by rw [W]; exact S7, hh.mono (Same.tups g18), hP.mono (Same.tups g18)⟩
    | false =>
      refine itF (by rw [show tsS false = "same" from rfl]; decide +kernel) ⟨_, rfl, _, rfl, rfl, ?_⟩
      have hld : holds t st.held = decide (V.int (val t.a st.held) = V.int (val t.b st.held)) := by unfold holds; rw [hl]; exact decide_eq_decide.mpr ⟨congrArg _, V.int.inj⟩
      refine ⟨_, rfl, _, rfl, _, rfl, _, rfl, p, _, rfl, g12.at_ hp, fun p3 H3 g3 e3 => ?_⟩
      rw [cut_init rfl] at e3
      have g13 := g12.trans g3
      refine ⟨_, rfl, _, rfl, _, rfl, ?_⟩
      unfold lstP at S1
      dsimp only at S1
      cases hh2 : holds t st.held with
      | true =>
        rw [hh2] at S1
        refine itT (hld.symm.trans hh2) ⟨_, rfl, _, _, rfl, rfl, (by show 2 ≤ sizeLine; decide), fun p4 hp4 => ⟨(by show 1 ≤ sizeLine; decide), fun p5 hp5 => ?_⟩⟩
        have g5 := Same.then_ (Same.new (o := .tup [V.int (n : Int), V.int ((q : Int) + 1)]) hp4) (o := .tup [V.ref p4]) hp5
        refine ⟨p3, p5, _, _, rfl, rfl, g5.at_ e3, upd_same, by rw [List.length_reverse, List.length_singleton]; omega, fun p6 H6 g6 e6 => ?_⟩
        have g16 := g13.trans (g5.trans g6)
        refine ⟨cd, p6, rs, _, (n, (q + 1)) :: ls, rfl, hc.same g16, StkA.of e6 (g6.at_ (newAt upd_same hp5)) (hv.mono fun _ _ ⟨a, e, r⟩ => ⟨a, e, g16.at_ r⟩), S1, by rw [List.length_cons]; omega, fun p7 l7 H7 g7 hs7 S7 => ?_⟩
        refine ⟨_, rfl, _, rfl, (by show 3 ≤ sizeLine; decide), fun p8 hp8 => ?_⟩
        have g8 : Same H7 (upd H7 p8 (.tup [V.ref p7, vh, vp])) := Same.new hp8
        have g18 := g16.trans (g7.trans g8)
        refine qq _ _ g18 ?_
        rw [behind_else hn rfl]
        exact ⟨p8, p7, vh, vp, l7, rfl, upd_same, hs7.mono (Same.tups g8), by rw [W]; exact S7, hh.mono (Same.tups g18), hP.mono (Same.tups g18)⟩
      | false =>
        rw [hh2] at S1
        refine itF (hld.symm.trans hh2) ⟨_, rfl, _, _, _, _, rfl, rfl, SqT.of (g13.at_ hia), atI_nat (j := 2) rfl, (by show 2 ≤ sizeLine; decide), fun p4 hp4 => ⟨(by show 1 ≤ sizeLine; decide), fun p5 hp5 => ?_⟩⟩
        have g5 := Same.then_ (Same.new (o := .tup [V.int (n : Int), V.int ((q + 1 + (flatB (q + 1) y).length + 1 : Nat) : Int)]) hp4) (o := .tup [V.ref p4]) hp5
        refine ⟨p3, p5, _, _, rfl, rfl, g5.at_ e3, upd_same, by rw [List.length_reverse, List.length_singleton]; omega, fun p6 H6 g6 e6 => ?_⟩
        have g16 := g13.trans (g5.trans g6)
        refine ⟨cd, p6, rs, _, (n, (q + 1 + (flatB (q + 1) y).length + 1)) :: ls, rfl, hc.same g16, StkA.of e6 (g6.at_ (newAt upd_same hp5)) (hv.mono fun _ _ ⟨a, e, r⟩ => ⟨a, e, g16.at_ r⟩), S1, by rw [List.length_cons]; omega, fun p7 l7 H7 g7 hs7 S7 => ?_⟩
        refine ⟨_, rfl, _, rfl, (by show 3 ≤ sizeLine; decide), fun p8 hp8 => ?_⟩
        have g8 : Same H7 (upd H7 p8 (.tup [V.ref p7, vh, vp])) := Same.new hp8
        have g18 := g16.trans (g7.trans g8)
        refine qq _ _ g18 ?_
        rw [behind_else hn rfl]
        exact ⟨p8, p7, vh, vp, l7, rfl, upd_same, hs7.mono (Same.tups g8), by rw [W]; exact S7, hh.mono (Same.tups g18), hP.mono (Same.tups g18)⟩
  | call r =>
    obtain ⟨ia, sv, rfl, hia, hst⟩ := hiv
    refine ⟨_, rfl, _, _, _, _, rfl, rfl, SqT.of (hia), atI_nat (j := 0) rfl, rfl, _, rfl, itF (by decide +kernel) ⟨_, rfl, _, _, _, _, rfl, rfl, SqT.of (hia), atI_nat (j := 1) rfl, _, rfl, _, rfl, _, rfl, p, _, rfl, hp, fun p3 H3 g3 e3 => ?_⟩⟩
    rw [cut_init rfl] at e3
    refine ⟨_, rfl, _, rfl, _, _, rfl, rfl, (by show 2 ≤ sizeLine; decide), fun p4 hp4 => ⟨(by show 1 ≤ sizeLine; decide), fun p5 hp5 => ?_⟩⟩
    have g5 := Same.then_ (Same.new (o := .tup [V.int (n : Int), V.int ((q : Int) + 1)]) hp4) (o := .tup [V.ref p4]) hp5
    refine ⟨p3, p5, _, _, rfl, rfl, g5.at_ e3, upd_same, by rw [List.length_reverse, List.length_singleton]; omega, fun p6 H6 g6 e6 => ?_⟩
    have g16 := g3.trans (g5.trans g6)
    have hstk : StkA H6 p6 ((n, q + 1) :: ls) := StkA.of e6 (g6.at_ (newAt upd_same hp5)) (hv.mono fun _ _ ⟨a, e, r⟩ => ⟨a, e, g16.at_ r⟩)
    have hst6 := StA.mono (Same.tups g16) _ _ hst
    rw [StA] at hst6
    obtain ⟨a0, rfl, hs0⟩ := hst6
    refine ⟨_, rfl, _, _, _, _, rfl, rfl, SqT.of (hs0), atI_nat (j := 0) rfl, rfl, _, rfl, itT (by decide +kernel) ⟨_, rfl, _, rfl, _, _, _, _, rfl, rfl, SqT.of (hs0), atI_nat (j := 1) rfl, (by show 2 ≤ sizeLine; decide), fun pa hpa => ⟨(by show 1 ≤ sizeLine; decide), fun pb hpb => ?_⟩⟩⟩
    have gb := Same.then_ (Same.new (o := .tup [V.int (r : Int), V.int 0]) hpa) (o := .tup [V.ref pa]) hpb
    obtain ⟨vs6, a6, e6', ha6, hv6⟩ := hstk.head
    have vl6 := hv6.len
    refine ⟨p6, pb, _, _, rfl, rfl, gb.at_ e6', upd_same, by rw [List.length_append, List.length_reverse, List.length_singleton, List.length_singleton]; omega, fun pd Hd gd ed => ?_⟩
    have gbd := gb.trans gd
    have g1d := g16.trans gbd
    have hstk2 : StkA Hd pd ((r, 0) :: (n, q + 1) :: ls) := StkA.of (vs := V.ref a6 :: vs6) (by rw [List.reverse_cons]; exact ed) (gd.at_ (newAt upd_same hpb)) (.cons ⟨a6, rfl, gbd.at_ ha6⟩ (hv6.mono fun _ _ ⟨a, e, r⟩ => ⟨a, e, gbd.at_ r⟩))
    refine ⟨_, rfl, _, rfl, cd, pd, rs, _, _, rfl, hc.same g1d, hstk2, S1, by simp only [List.length_cons]; omega, fun p7 l7 H7 g7 hs7 S7 => ?_⟩
    refine ⟨_, rfl, _, rfl, (by show 3 ≤ sizeLine; decide), fun p8 hp8 => ?_⟩
    have g8 : Same H7 (upd H7 p8 (.tup [V.ref p7, vh, vp])) := Same.new hp8
    have g78 := g7.trans g8
    have g18 := Same.trans g1d g78
    refine qq _ _ g18 ?_
    rw [behind_else hn rfl]
    exact ⟨p8, p7, vh, vp, l7, rfl, upd_same, hs7.mono (Same.tups g8), by rw [W]; exact S7, hh.mono (Same.tups g18), hP.mono (Same.tups g18)⟩
  | put bs x y =>
    obtain ⟨ia, sv, rfl, hia, hst⟩ := hiv
    refine ⟨_, rfl, _, _, _, _, rfl, rfl, SqT.of (hia), atI_nat (j := 0) rfl, rfl, _, rfl, itF (by decide +kernel) ⟨_, rfl, _, _, _, _, rfl, rfl, SqT.of (hia), atI_nat (j := 1) rfl, _, rfl, _, rfl, _, rfl, p, _, rfl, hp, fun p3 H3 g3 e3 => ?_⟩⟩
    rw [cut_init rfl] at e3
    refine ⟨_, rfl, _, rfl, _, _, rfl, rfl, (by show 2 ≤ sizeLine; decide), fun p4 hp4 => ⟨(by show 1 ≤ sizeLine; decide), fun p5 hp5 => ?_⟩⟩
    have g5 := Same.then_ (Same.new (o := .tup [V.int (n : Int), V.int ((q : Int) + 1)]) hp4) (o := .tup [V.ref p4]) hp5
    refine ⟨p3, p5, _, _, rfl, rfl, g5.at_ e3, upd_same, by rw [List.length_reverse, List.length_singleton]; omega, fun p6 H6 g6 e6 => ?_⟩
    have g16 := g3.trans (g5.trans g6)
    have hstk : StkA H6 p6 ((n, q + 1) :: ls) := StkA.of e6 (g6.at_ (newAt upd_same hp5)) (hv.mono fun _ _ ⟨a, e, r⟩ => ⟨a, e, g16.at_ r⟩)
    have hst6 := StA.mono (Same.tups g16) _ _ hst
    rw [StA] at hst6
    obtain ⟨a0, q1, q2, q3, rfl, hs0, hb1, hb2, hb3⟩ := hst6
    rw [OkS] at ok
    obtain ⟨d1, d2⟩ := done_put hn hdone
    refine ⟨_, rfl, _, _, _, _, rfl, rfl, SqT.of (hs0), atI_nat (j := 0) rfl, rfl, _, rfl, itF (by decide +kernel) ⟨_, rfl, _, _, _, _, rfl, rfl, SqT.of (hs0), atI_nat (j := 0) rfl, rfl, _, rfl, itT (by decide +kernel) ?_⟩⟩
    refine ⟨_, rfl, _, _, _, _, rfl, rfl, SqT.of (hs0), atI_nat (j := 1) rfl, _, rfl, _, _, bs, st.held, rfl, hb1, hh.mono (Same.tups g16), by rw [hgh]; exact ok.1.1, by omega, ok.1.2, fun H7 g7 => ?_⟩
    refine ⟨_, rfl, _, _, _, _, rfl, rfl, SqT.of (g7.at_ hs0), atI_nat (j := 2) rfl, _, rfl, _, _, x, st.held, rfl, hb2.mono (Same.tups g7), hh.mono (Same.tups (g16.trans g7)), by rw [hgh]; exact ok.2.1.1, by omega, ok.2.1.2, fun H8 g8 => ?_⟩
    have g78 := g7.trans g8
    refine ⟨_, rfl, _, _, _, _, rfl, rfl, SqT.of (g78.at_ hs0), atI_nat (j := 3) rfl, _, rfl, _, _, y, st.held, rfl, hb3.mono (Same.tups g78), hh.mono (Same.tups (g16.trans g78)), by rw [hgh]; exact ok.2.2.1, by omega, ok.2.2.2, fun H9 g9 => ⟨(by show 2 ≤ sizeLine; decide), fun ta hta => ?_⟩⟩
    have g9a := (g78.trans g9).trans (Same.new (o := .tup [V.int (val x st.held), V.int (val y st.held)]) hta)
    obtain ⟨pa, pvs, rfl, hpa, pl⟩ := id hP
    have pll := pl.len
    have ek : val bs st.held = (((val bs st.held).toNat : Nat) : Int) := by omega
    have g1a := g16.trans g9a
    refine ⟨_, rfl, _, rfl, _, rfl, pa, _, rfl, g1a.at_ hpa, fun pb Hb gb eb => ?_⟩
    have eb' : Hb pb = some (.tup (pvs.take (val bs st.held).toNat)) := by rw [← cut_to (xs := pvs) (k := (val bs st.held).toNat) (by omega), ← ek]; exact eb
    refine ⟨_, rfl, (by show 1 ≤ sizeLine; decide), fun tc htc => ⟨pb, tc, _, _, rfl, rfl, newAt eb' htc, upd_same, by rw [List.length_take, List.length_singleton]; omega, fun pd Hd gd ed => ?_⟩⟩
    have gbd := gb.trans ((Same.new (o := .tup [V.ref ta]) htc).trans gd)
    have g1d := g1a.trans gbd
    refine ⟨_, rfl, _, rfl, _, _, rfl, rfl, _, rfl, pa, _, rfl, g1d.at_ hpa, fun pe He ge ee => ?_⟩
    rw [cut_from (k := (val bs st.held).toNat + 1) (by omega) (by omega)] at ee
    refine ⟨pd, pe, _, _, rfl, rfl, ge.at_ ed, ee, by rw [List.length_append, List.length_take, List.length_drop, List.length_singleton]; omega, fun pf Hf gf ef => ?_⟩
    rw [set_cut (by omega)] at ef
    have gdf := ge.trans gf
    have g1f := g1d.trans gdf
    have hPf : PosA Hf (.ref pf) (st.pos.set (val bs st.held).toNat (some (val x st.held, val y st.held))) :=
      ⟨pf, _, rfl, ef, (pl.mono fun _ _ r => PlA.mono r (Same.tups g1f)).set (show PlA Hf (.ref ta) (some (val x st.held, val y st.held)) from ⟨ta, rfl, (gbd.trans gdf).at_ upd_same⟩) _⟩
    have hstkf : StkA Hf p6 ((n, q + 1) :: ls) := hstk.mono (Same.tups (g9a.trans (gbd.trans gdf)))
    refine ⟨_, rfl, _, rfl, cd, p6, rs, _, _, rfl, hc.same g1f, hstkf, S1, by simp only [List.length_cons]; omega, fun p7 l7 H7 g7 hs7 S7 => ?_⟩
    refine ⟨_, rfl, _, rfl, (by show 3 ≤ sizeLine; decide), fun p8 hp8 => ?_⟩
    have g8 : Same H7 (upd H7 p8 (.tup [V.ref p7, vh, (.ref pf)])) := Same.new hp8
    have g78 := g7.trans g8
    have g18 := Same.trans g1f g78
    refine qq _ _ g18 ?_
    rw [behind_put hn]
    exact ⟨p8, p7, vh, (.ref pf), l7, rfl, upd_same, hs7.mono (Same.tups g8), by rw [W]; exact S7, hh.mono (Same.tups g18), hPf.mono (Same.tups g78)⟩
  | set c z =>
    obtain ⟨ia, sv, rfl, hia, hst⟩ := hiv
    refine ⟨_, rfl, _, _, _, _, rfl, rfl, SqT.of (hia), atI_nat (j := 0) rfl, rfl, _, rfl, itF (by decide +kernel) ⟨_, rfl, _, _, _, _, rfl, rfl, SqT.of (hia), atI_nat (j := 1) rfl, _, rfl, _, rfl, _, rfl, p, _, rfl, hp, fun p3 H3 g3 e3 => ?_⟩⟩
    rw [cut_init rfl] at e3
    refine ⟨_, rfl, _, rfl, _, _, rfl, rfl, (by show 2 ≤ sizeLine; decide), fun p4 hp4 => ⟨(by show 1 ≤ sizeLine; decide), fun p5 hp5 => ?_⟩⟩
    have g5 := Same.then_ (Same.new (o := .tup [V.int (n : Int), V.int ((q : Int) + 1)]) hp4) (o := .tup [V.ref p4]) hp5
    refine ⟨p3, p5, _, _, rfl, rfl, g5.at_ e3, upd_same, by rw [List.length_reverse, List.length_singleton]; omega, fun p6 H6 g6 e6 => ?_⟩
    have g16 := g3.trans (g5.trans g6)
    have hstk : StkA H6 p6 ((n, q + 1) :: ls) := StkA.of e6 (g6.at_ (newAt upd_same hp5)) (hv.mono fun _ _ ⟨a, e, r⟩ => ⟨a, e, g16.at_ r⟩)
    have hst6 := StA.mono (Same.tups g16) _ _ hst
    rw [StA] at hst6
    obtain ⟨a0, q1, rfl, hs0, hb1⟩ := hst6
    rw [OkS] at ok
    refine ⟨_, rfl, _, _, _, _, rfl, rfl, SqT.of (hs0), atI_nat (j := 0) rfl, rfl, _, rfl, itF (by decide +kernel) ⟨_, rfl, _, _, _, _, rfl, rfl, SqT.of (hs0), atI_nat (j := 0) rfl, rfl, _, rfl, itF (by decide +kernel) ?_⟩⟩
    refine ⟨_, rfl, _, _, _, _, rfl, rfl, SqT.of (hs0), atI_nat (j := 1) rfl, _, rfl, _, _, _, _, rfl, rfl, SqT.of (hs0), atI_nat (j := 0) rfl, rfl, _, rfl, itT (by decide +kernel) ⟨_, rfl, _, _, _, _, rfl, rfl, SqT.of (hs0), atI_nat (j := 2) rfl, _, rfl, _, _, z, st.held, rfl, hb1, hh.mono (Same.tups g16), by rw [hgh]; exact ok.2.1, by omega, ok.2.2, fun H7 g7 => ?_⟩⟩
    have g1a := g16.trans g7
    obtain ⟨ah, rfl, hah⟩ := id hh
    have hal : c < (st.held.map V.int).length := by rw [List.length_map]; omega
    have hal5 : (st.held.map V.int).length ≤ 5 := by rw [List.length_map]; omega
    refine ⟨_, rfl, _, rfl, _, rfl, ah, _, rfl, g1a.at_ hah, fun pb Hb gb eb => ?_⟩
    rw [cut_to (by omega)] at eb
    refine ⟨_, rfl, (by show 1 ≤ sizeLine; decide), fun tc htc => ⟨pb, tc, _, _, rfl, rfl, newAt eb htc, upd_same, by rw [List.length_take, List.length_singleton]; omega, fun pd Hd gd ed => ?_⟩⟩
    have gbd := gb.trans ((Same.new (o := .tup [V.int (val z st.held)]) htc).trans gd)
    have g1d := g1a.trans gbd
    refine ⟨_, rfl, _, rfl, _, _, rfl, rfl, _, rfl, ah, _, rfl, g1d.at_ hah, fun pe He ge ee => ?_⟩
    rw [cut_from (k := c + 1) (by omega) (by omega)] at ee
    refine ⟨pd, pe, _, _, rfl, rfl, ge.at_ ed, ee, by rw [List.length_append, List.length_take, List.length_drop, List.length_singleton]; omega, fun pf Hf gf ef => ?_⟩
    rw [set_cut (by omega), map_set] at ef
    have gdf := ge.trans gf
    have g1f := g1d.trans gdf
    have hhf : SmA Hf (.ref pf) (st.held.set c (val z st.held)) := ⟨pf, rfl, ef⟩
    have hstkf : StkA Hf p6 ((n, q + 1) :: ls) := hstk.mono (Same.tups (g7.trans (gbd.trans gdf)))
    refine ⟨_, rfl, _, rfl, cd, p6, rs, _, _, rfl, hc.same g1f, hstkf, S1, by simp only [List.length_cons]; omega, fun p7 l7 H7 g7 hs7 S7 => ?_⟩
    refine ⟨_, rfl, _, rfl, (by show 3 ≤ sizeLine; decide), fun p8 hp8 => ?_⟩
    have g8 : Same H7 (upd H7 p8 (.tup [V.ref p7, (.ref pf), vp])) := Same.new hp8
    have g78 := g7.trans g8
    have g18 := Same.trans g1f g78
    refine qq _ _ g18 ?_
    rw [behind_set hn]
    exact ⟨p8, p7, (.ref pf), vp, l7, rfl, upd_same, hs7.mono (Same.tups g8), by rw [W]; exact S7, hhf.mono (Same.tups g78), hP.mono (Same.tups g18)⟩
  | ask c wd z =>
    obtain ⟨ia, sv, rfl, hia, hst⟩ := hiv
    refine ⟨_, rfl, _, _, _, _, rfl, rfl, SqT.of (hia), atI_nat (j := 0) rfl, rfl, _, rfl, itF (by decide +kernel) ⟨_, rfl, _, _, _, _, rfl, rfl, SqT.of (hia), atI_nat (j := 1) rfl, _, rfl, _, rfl, _, rfl, p, _, rfl, hp, fun p3 H3 g3 e3 => ?_⟩⟩
    rw [cut_init rfl] at e3
    refine ⟨_, rfl, _, rfl, _, _, rfl, rfl, (by show 2 ≤ sizeLine; decide), fun p4 hp4 => ⟨(by show 1 ≤ sizeLine; decide), fun p5 hp5 => ?_⟩⟩
    have g5 := Same.then_ (Same.new (o := .tup [V.int (n : Int), V.int ((q : Int) + 1)]) hp4) (o := .tup [V.ref p4]) hp5
    refine ⟨p3, p5, _, _, rfl, rfl, g5.at_ e3, upd_same, by rw [List.length_reverse, List.length_singleton]; omega, fun p6 H6 g6 e6 => ?_⟩
    have g16 := g3.trans (g5.trans g6)
    have hstk : StkA H6 p6 ((n, q + 1) :: ls) := StkA.of e6 (g6.at_ (newAt upd_same hp5)) (hv.mono fun _ _ ⟨a, e, r⟩ => ⟨a, e, g16.at_ r⟩)
    have hst6 := StA.mono (Same.tups g16) _ _ hst
    have hst6' := hst6
    rw [StA] at hst6
    obtain ⟨a0, q1, rfl, hs0, hb1⟩ := hst6
    rw [OkS] at ok
    obtain ⟨⟨d1, d2⟩, d3⟩ := done_ask hn hdone
    have hsome : wd = .width ∨ wd = .height ∨ ∃ y, st.pos[(val z st.held).toNat]? = some (some y) := by
      rcases d3 with e | e | e
      · exact .inl e
      · exact .inr (.inl e)
      · have hl : (val z st.held).toNat < st.pos.length := by omega
        rw [List.getD_eq_getElem?_getD, List.getElem?_eq_getElem hl] at e
        obtain ⟨y, ey⟩ := Option.isSome_iff_exists.mp e
        refine .inr (.inr ⟨y, ?_⟩)
        rw [List.getElem?_eq_getElem hl]
        exact congrArg some ey
    refine ⟨_, rfl, _, _, _, _, rfl, rfl, SqT.of (hs0), atI_nat (j := 0) rfl, rfl, _, rfl, itF (by decide +kernel) ⟨_, rfl, _, _, _, _, rfl, rfl, SqT.of (hs0), atI_nat (j := 0) rfl, rfl, _, rfl, itF (by decide +kernel) ?_⟩⟩
    refine ⟨_, rfl, _, _, _, _, rfl, rfl, SqT.of (hs0), atI_nat (j := 1) rfl, _, rfl, _, _, _, _, rfl, rfl, SqT.of (hs0), atI_nat (j := 0) rfl, rfl, _, rfl, itF (by decide +kernel) ⟨_, rfl, _, rfl, _, rfl, _, rfl, sz', .ref a0, vh, vp, zs, st.pos, c, wd, z, st.held, rfl, SizA.mono hsz (Same.tups g16), hst6', hh.mono (Same.tups g16), hP.mono (Same.tups g16), by rw [hgh]; exact ok.2, by omega, d1, d2, hsome, fun H7 g7 => ?_⟩⟩
    have g1a := g16.trans g7
    obtain ⟨ah, rfl, hah⟩ := id hh
    have hal : c < (st.held.map V.int).length := by rw [List.length_map]; omega
    have hal5 : (st.held.map V.int).length ≤ 5 := by rw [List.length_map]; omega
    refine ⟨_, rfl, _, rfl, _, rfl, ah, _, rfl, g1a.at_ hah, fun pb Hb gb eb => ?_⟩
    rw [cut_to (by omega)] at eb
    refine ⟨_, rfl, (by show 1 ≤ sizeLine; decide), fun tc htc => ⟨pb, tc, _, _, rfl, rfl, newAt eb htc, upd_same, by rw [List.length_take, List.length_singleton]; omega, fun pd Hd gd ed => ?_⟩⟩
    have gbd := gb.trans ((Same.new (o := .tup [V.int (askedP zs st.pos wd (val z st.held).toNat)]) htc).trans gd)
    have g1d := g1a.trans gbd
    refine ⟨_, rfl, _, rfl, _, _, rfl, rfl, _, rfl, ah, _, rfl, g1d.at_ hah, fun pe He ge ee => ?_⟩
    rw [cut_from (k := c + 1) (by omega) (by omega)] at ee
    refine ⟨pd, pe, _, _, rfl, rfl, ge.at_ ed, ee, by rw [List.length_append, List.length_take, List.length_drop, List.length_singleton]; omega, fun pf Hf gf ef => ?_⟩
    rw [set_cut (by omega), map_set] at ef
    have gdf := ge.trans gf
    have g1f := g1d.trans gdf
    have hhf : SmA Hf (.ref pf) (st.held.set c (askedP zs st.pos wd (val z st.held).toNat)) := ⟨pf, rfl, ef⟩
    have hstkf : StkA Hf p6 ((n, q + 1) :: ls) := hstk.mono (Same.tups (g7.trans (gbd.trans gdf)))
    refine ⟨_, rfl, _, rfl, cd, p6, rs, _, _, rfl, hc.same g1f, hstkf, S1, by simp only [List.length_cons]; omega, fun p7 l7 H7 g7 hs7 S7 => ?_⟩
    refine ⟨_, rfl, _, rfl, (by show 3 ≤ sizeLine; decide), fun p8 hp8 => ?_⟩
    have g8 : Same H7 (upd H7 p8 (.tup [V.ref p7, (.ref pf), vp])) := Same.new hp8
    have g78 := g7.trans g8
    have g18 := Same.trans g1f g78
    refine qq _ _ g18 ?_
    rw [behind_ask hn]
    exact ⟨p8, p7, (.ref pf), vp, l7, rfl, upd_same, hs7.mono (Same.tups g8), by rw [W]; exact S7, hhf.mono (Same.tups g78), hP.mono (Same.tups g18)⟩
end
end K34

set_option Elab.async false
set_option linter.all false
set_option maxRecDepth 100000
set_option maxHeartbeats 4000000
/-! D18: the runner tells what the law's machine tells. -/
namespace K34
open PySem PySem.Spec PyProof.Rows L2
open He (ga ma)
/-! ### data that can be compared -/
structure Sh (d : PyData) (n : Nat) : Prop where
  c : d.canLay0 = true
  k : d.depth ≤ n
theorem Sh.ok {d : PyData} {n : Nat} (h : Sh d n) (hn : n ≤ 64) : SeqAt.shaped d = true := by
  unfold SeqAt.shaped
  rw [h.c, Bool.true_and]
  exact decide_eq_true (Nat.le_trans h.k hn)
theorem shAll : ∀ (ds : List PyData) (n : Nat), (∀ d ∈ ds, Sh d n) → PyData.canLayAll0 ds = true ∧ PyData.depthAll ds ≤ n
  | [], n, _ => ⟨by rw [PyData.canLayAll0], by rw [PyData.depthAll]; exact Nat.zero_le _⟩
  | d :: ds, n, h => by
    obtain ⟨h1, h2⟩ := shAll ds n fun x m => h x (List.mem_cons_of_mem _ m)
    have h3 := h d List.mem_cons_self
    refine ⟨?_, ?_⟩
    · rw [PyData.canLayAll0, h3.c, h1]; rfl
    · rw [PyData.depthAll]; exact Nat.max_le.mpr ⟨h3.k, h2⟩
theorem Sh.tup {ds : List PyData} {n : Nat} (h : ∀ d ∈ ds, Sh d n) : Sh (.tuple ds) (n + 1) := by
  obtain ⟨h1, h2⟩ := shAll ds n h
  exact ⟨by rw [PyData.canLay0]; exact h1, by rw [PyData.depth]; omega⟩
theorem Sh.int {i : Int} {n : Nat} : Sh (.int i) n := ⟨by rw [PyData.canLay0], by rw [PyData.depth]; exact Nat.zero_le _⟩
theorem Sh.non {n : Nat} : Sh .none n := ⟨by rw [PyData.canLay0], by rw [PyData.depth]; exact Nat.zero_le _⟩
theorem Sh.str {x : Str} {n : Nat} (h : PyData.strOk x = true) : Sh (.str x) n := ⟨by rw [PyData.canLay0]; exact h, by rw [PyData.depth]; exact Nat.zero_le _⟩
theorem shc {P : PyData → Prop} {x : PyData} {l : List PyData} (h : P x) (t : ∀ y ∈ l, P y) : ∀ y ∈ x :: l, P y := fun y m => by
  rcases List.mem_cons.mp m with e | m
  · rw [e]; exact h
  · exact t y m
theorem shn {P : PyData → Prop} : ∀ y ∈ ([] : List PyData), P y := fun y m => by cases m
def dSm (s : Sm) : PyData := .tuple (s.map .int)
def dTs (t : Tst) : PyData := .tuple [.str (tsS t.less), dSm t.a, dSm t.b]
def dSt : Stm → PyData
  | .set c s => .tuple [.str "set", .int (c : Int), dSm s]
  | .put b x y => .tuple [.str "put", dSm b, dSm x, dSm y]
  | .ask c w s => .tuple [.str "ask", .int (c : Int), .str (wdS w), dSm s]
  | .call r => .tuple [.str "call", .int (r : Int)]
  | .ite t _ _ => dTs t
  | .whl t _ => dTs t
def dPl : Option (Int × Int) → PyData
  | none => .none
  | some z => .tuple [.int z.1, .int z.2]
def dPos (p : List (Option (Int × Int))) : PyData := .tuple (p.map dPl)
def dCom (st : PSt) : PyData := match nextP st.op with
  | some s => dSt s
  | none => .none
theorem dSm_sh {s : Sm} : Sh (dSm s) 1 := Sh.tup fun d m => by
  obtain ⟨z, _, rfl⟩ := List.mem_map.mp m
  exact Sh.int
theorem Sh.up {d : PyData} {n m : Nat} (h : Sh d n) (k : n ≤ m) : Sh d m := ⟨h.c, Nat.le_trans h.k k⟩
theorem dTs_sh {t : Tst} : Sh (dTs t) 2 := Sh.tup (shc (Sh.str (by cases t.less <;> decide +kernel)) (shc dSm_sh (shc dSm_sh shn)))
theorem dSt_sh {s : Stm} : Sh (dSt s) 2 := by
  cases s with
  | set c s => exact Sh.tup (shc (Sh.str (by decide +kernel)) (shc Sh.int (shc dSm_sh shn)))
  | put b x y => exact Sh.tup (shc (Sh.str (by decide +kernel)) (shc dSm_sh (shc dSm_sh (shc dSm_sh shn))))
  | ask c w s => exact Sh.tup (shc (Sh.str (by decide +kernel)) (shc Sh.int (shc (Sh.str (by cases w <;> decide +kernel)) (shc dSm_sh shn))))
  | call r => exact Sh.tup (shc (Sh.str (by decide +kernel)) (shc Sh.int shn))
  | ite t y n => exact dTs_sh
  | whl t b => exact dTs_sh
theorem dPos_sh {p : List (Option (Int × Int))} : Sh (dPos p) 2 := Sh.tup fun d m => by
  obtain ⟨z, _, rfl⟩ := List.mem_map.mp m
  cases z with
  | none => exact Sh.non
  | some z => exact Sh.tup (shc Sh.int (shc Sh.int shn))
theorem dCom_sh {st : PSt} : Sh (dCom st) 2 := by
  unfold dCom
  split
  · exact dSt_sh
  · exact Sh.non
section
variable {K : PySem.W.Frag} {H : Hp}
theorem dpAll_map {α : Type} {f : α → V} {g : α → PyData} : ∀ {l : List α}, (∀ x ∈ l, Dp K H (f x) (g x)) → DpAll K H (l.map f) (l.map g)
  | [], _ => .nil
  | x :: l, h => .cons (h x List.mem_cons_self) (dpAll_map fun y m => h y (List.mem_cons_of_mem _ m))
theorem SmA.dp {v : V} {s : Sm} (h : SmA H v s) : Dp K H v (dSm s) := by
  obtain ⟨a, rfl, e⟩ := h
  exact .tup (SqT.of e) (dpAll_map fun x _ => .int x)
theorem TsA.dp {v : V} {t : Tst} (h : TsA H v t) : Dp K H v (dTs t) := by
  obtain ⟨a, p, q, rfl, e, x, y⟩ := h
  exact .tup (SqT.of e) (.cons (.str _) (.cons x.dp (.cons y.dp .nil)))
theorem PosA.dp {v : V} {p : List (Option (Int × Int))} (h : PosA H v p) : Dp K H v (dPos p) := by
  obtain ⟨a, vs, rfl, e, x⟩ := h
  refine .tup (SqT.of e) ?_
  clear e
  induction x with
  | nil => exact .nil
  | @cons v z vs zs r _ ih =>
    refine .cons ?_ ih
    cases z with
    | none => have r : v = .non := r; rw [r]; exact .non
    | some z => obtain ⟨b, rfl, e⟩ := r; exact .tup (SqT.of e) (.cons (.int _) (.cons (.int _) .nil))
theorem ComA.dp {v : V} {st : PSt} (h : ComA H v st) : Dp K H v (dCom st) := by
  rcases h with ⟨e, rfl⟩ | ⟨s, hn, h⟩
  · unfold dCom; rw [e]; exact .non
  · unfold dCom
    rw [hn]
    cases s with
    | ite t y n => exact TsA.dp h
    | whl t b => exact TsA.dp h
    | set c z =>
      have h : StA H (.set c z) v := h
      rw [StA] at h
      obtain ⟨a, p, rfl, e, x⟩ := h
      exact .tup (SqT.of e) (.cons (.str _) (.cons (.int _) (.cons x.dp .nil)))
    | put b x y =>
      have h : StA H (.put b x y) v := h
      rw [StA] at h
      obtain ⟨a, p, q, r, rfl, e, x1, x2, x3⟩ := h
      exact .tup (SqT.of e) (.cons (.str _) (.cons x1.dp (.cons x2.dp (.cons x3.dp .nil))))
    | ask c w z =>
      have h : StA H (.ask c w z) v := h
      rw [StA] at h
      obtain ⟨a, p, rfl, e, x⟩ := h
      exact .tup (SqT.of e) (.cons (.str _) (.cons (.int _) (.cons (.str _) (.cons x.dp .nil))))
    | call r =>
      have h : StA H (.call r) v := h
      rw [StA] at h
      obtain ⟨a, rfl, e⟩ := h
      exact .tup (SqT.of e) (.cons (.str _) (.cons (.int _) .nil))
end
theorem fst_v {rs : List (List Stm)} {o : Opn} {l : List (Nat × Nat)} (S : Sim rs o l) : (o.map fun r => V.int (r.1 : Int)) = l.map fun x => V.int (x.1 : Int) := by
  have := congrArg (List.map fun n : Nat => V.int (n : Int)) S.fst
  rw [List.map_map, List.map_map] at this
  exact this
theorem TrlA.last {rs : List (List Stm)} {H : Hp} {t : Addr} {ps : List PSt} {st : PSt} (h : TrlA rs H t (ps ++ [st])) : ∃ vs v, H t = some (.lst (vs ++ [v])) ∧ LwA rs H v st ∧ All2 (LwA rs H) vs ps := by
  obtain ⟨xs, e, x⟩ := h
  have key : ∀ (ps : List PSt) (xs : List V), All2 (LwA rs H) xs (ps ++ [st]) → ∃ vs v, xs = vs ++ [v] ∧ LwA rs H v st ∧ All2 (LwA rs H) vs ps := by
    intro ps
    induction ps with
    | nil =>
      intro xs x
      cases x with
      | cons a b => cases b; exact ⟨[], _, rfl, a, .nil⟩
    | cons p r ih =>
      intro xs x
      cases x with
      | cons a b =>
        obtain ⟨vs, v, rfl, h1, h2⟩ := ih _ b
        exact ⟨_ :: vs, v, rfl, h1, .cons a h2⟩
  obtain ⟨vs, v, rfl, h1, h2⟩ := key ps xs x
  exact ⟨vs, v, e, h1, h2⟩
theorem TrlA.kept {rs : List (List Stm)} {H H' : Hp} {t : Addr} {ps : List PSt} (h : TrlA rs H t ps) (k : Tups H H') (e : ∀ xs, H t = some (.lst xs) → H' t = some (.lst xs)) : TrlA rs H' t ps := let ⟨vs, q, x⟩ := h; ⟨vs, e _ q, x.mono fun _ _ r => r.mono k⟩
def spRight (K : PySem.W.Frag) : Sp := fun vs H Q _ => ∃ (r pl sc bx cd sz t : Addr) (cells : Nat) (rs : List (List Stm)) (zs : List (Int × Int)) (ps : List PSt) (st : PSt), vs = [.ref r, .ref cd, .ref sz, .ref t] ∧ RunA K H r pl sc bx cells rs zs (ps ++ [st]) ∧ CdsA H cd rs ∧ SizA H sz zs ∧ TrlA rs H t (ps ++ [st]) ∧ Sc cells rs zs.length ∧ ∀ H', Same H H' → Q (.bl true) H'
section
variable {P : Program} {w : World} {K : PySem.W.Frag} {mg : Str → Option Value} {base : Heap}
theorem ok_lright (T : Facts w K mg) : OkF P w K mg base CX0 7 "_law_is_right" ["_law_runner", "_law_codes_here", "_law_sizes_here", "_law_trail"] (spRight K) := by
  have G_SceneRunner_word := ok_Runner_word (P := P) (base := base) T
  have G_SceneRunner_coming := ok_Runner_coming (P := P) (base := base) T
  have G_SceneRunner_opened := ok_Runner_opened (P := P) (base := base) T
  have G_SceneRunner_steps := ok_Runner_steps (P := P) (base := base) T
  have G_SceneRunner_contents := ok_Runner_contents (P := P) (base := base) T
  have G_SceneRunner_places := ok_Runner_places (P := P) (base := base) T
  have G__law_word := ok_lword (P := P) (base := base) T
  have G__law_coming := ok_lcoming (P := P) (base := base) T
  refine T.d__law_is_right.ok sc__law_is_right bb__law_is_right (fun vs H Q E h => ?_) (fun f cdv A outer s H vs Q E hr h => ?_)
  · obtain ⟨_, _, _, _, _, _, _, _, _, _, _, _, rfl, _⟩ := h; rfl
  obtain ⟨r, pl, sc, bx, cd, sz', t, cells, rs, zs, ps, st, rfl, R, hc, hsz, hT, O, q⟩ := h
  obtain ⟨tvs, tv, ht, hL, htv⟩ := hT.last
  obtain ⟨vs0, v0, hpl0, hS0, hvs0, hg⟩ := R.last
  have few := hg.few
  have nf : ∀ {m : Str}, (m == ("scene" : Str)) = false → (m == ("sized" : Str)) = false → (m == ("past" : Str)) = false → (fRun (.ref sc) (.ref bx) (.ref pl)).lookup m = none := fun a b c => fRun_no a b c
  refine ⟨_, (pss_cons (ps_set (i := 4) sc__law_is_right.nd rfl (Or.inl rfl) (pe_ix ix_list (pv 3) (pe_un un_neg pe_int) (fun _ _ => rfl)))
      (pss_cons (ps_if (PW.pt (pw_or (pt_cmpR op_ne (pe_mcal0 G_SceneRunner_word T.cl_SceneRunner (hr.mono (by first | decide | omega)) (pv 0)) (pe_cal G__law_word (hr.mono (by first | decide | omega)) (pa_cons (pv 1) (pa_cons (pv 2) (pa_cons (pv 4) pa_nil)))) (nomark _)) (pw_or1 (pt_cmpR (op_neD hr.units) (pe_mcal0 G_SceneRunner_coming T.cl_SceneRunner (hr.mono (by first | decide | omega)) (pv 0)) (pe_cal G__law_coming (hr.mono (by first | decide | omega)) (pa_cons (pv 1) (pa_cons (pv 4) pa_nil))) (nomark _))))) (pss_one (ps_ret pe_bl)) pss_nil)
      (pss_cons (ps_if (PW.pt (pw_or (pt_cmpR (op_neD hr.units) (pe_mcal0 G_SceneRunner_opened T.cl_SceneRunner (hr.mono (by first | decide | omega)) (pv 0)) (pe_callTy call_tuple_of (by rfl) T.b_tuple bv_tuple (pa_cons (pe_lc (own := [("_law_routine", 5), ("_law_place", 6)]) (g := (gTup K 2 (gCons (gName 5) (gCons (gName 6) gNil)))) (tt := tYes) rfl sc__law_is_right.nd (pi_tup (pe_ix ix_tup (pv 4) pe_int (fun _ _ => rfl))) (blkOk_by (N := N__law_is_right) (sc := defScope s__law_is_right) (by decide +kernel)) (fun _ _ _ _ _ => (pg_tup rfl (pgs_cons (pg_name (i := 5) sc__law_is_right.nd rfl (Or.inl rfl)) (pgs_cons (pg_name (i := 6) sc__law_is_right.nd rfl (Or.inl rfl)) pgs_nil)))) (fun _ _ _ _ _ => pts_nil) (fun _ _ _ _ _ => (pv 5))) pa_nil)) (nomark _)) (pw_or1 (pt_cmpR op_ne (pe_mcal0 G_SceneRunner_steps T.cl_SceneRunner (hr.mono (by first | decide | omega)) (pv 0)) (pe_op op_sub (pe_callB call_len_seq (by rfl) T.b_len PySem.boot_len (pa_cons (pv 3) pa_nil)) pe_int) (nomark _))))) (pss_one (ps_ret pe_bl)) pss_nil)
      (pss_one (ps_ret (pe_and (pe_cmpR (op_eqD hr.units) (pe_mcal0 G_SceneRunner_contents T.cl_SceneRunner (hr.mono (by first | decide | omega)) (pv 0)) (pe_ix ix_tup (pv 4) pe_int (fun _ _ => rfl)) (nomark _)) (pe_one (pe_cmpR (op_eqD hr.units) (pe_mcal0 G_SceneRunner_places T.cl_SceneRunner (hr.mono (by first | decide | omega)) (pv 0)) (pe_ix ix_tup (pv 4) pe_int (fun _ _ => rfl)) (nomark _))))))))), ?_⟩
  obtain ⟨dx, hr0⟩ := R.ob
  refine ⟨_, rfl, _, rfl, _, _, _, _, rfl, rfl, SqL.of ht, at_last rfl, ?_⟩
  refine ⟨_, rfl, r, dx, _, rfl, hr0, nf (by decide +kernel) (by decide +kernel) (by decide +kernel), r, pl, sc, bx, cells, rs, zs, ps, st, rfl, R, O, fun H1 g1 => ?_⟩
  refine ⟨_, rfl, _, rfl, _, rfl, cd, sz', tv, cells, rs, zs, st, rfl, hc.same g1, hsz.mono (Same.tups g1), hL.mono (Same.tups g1), O.st hg, fun H2 g2 => ⟨rfl, _, rfl, itF ?_ ?_⟩⟩
  · rw [decide_eq_true rfl]; rfl
  have g12 := g1.trans g2
  refine ⟨_, rfl, r, dx, _, rfl, g12.at_ hr0, nf (by decide +kernel) (by decide +kernel) (by decide +kernel), r, pl, sc, bx, cells, rs, zs, ps, st, rfl, R.same g12, fun v3 H3 g3 hc3 => ?_⟩
  have g13 := g12.trans g3
  refine ⟨_, rfl, _, rfl, cd, tv, rs, st, rfl, hc.same g13, hL.mono (Same.tups g13), hg.set_, fun v4 hc4 => ?_⟩
  refine ⟨dCom st, dCom st, hc3.dp, hc4.dp, dCom_sh.ok (by decide), dCom_sh.ok (by decide), _, rfl, itF ?_ ?_⟩
  · rw [SeqAt.eqv_refl _ dCom_sh.c]; rfl
  refine ⟨_, rfl, r, dx, _, rfl, g13.at_ hr0, nf (by decide +kernel) (by decide +kernel) (by decide +kernel), r, pl, sc, bx, cells, rs, zs, ps, st, rfl, R.same g13, fun v5 H5 g5 ho5 => ?_⟩
  have g15 := g13.trans g5
  obtain ⟨a, p, vh, vp, l, rfl, ha, hp, S, hh, hP⟩ := hL.mono (Same.tups g15)
  obtain ⟨lvs, hlp, hlv⟩ := hp
  have ll := hlv.len
  have sl := S.len
  refine ⟨_, rfl, _, _, _, _, rfl, rfl, SqT.of (ha), atI_nat (j := 0) rfl, p, rfl, ⟨_, SqT.of hlp⟩, fun D hD => ?_⟩
  have hrev : All2 (fun v (x : Nat × Nat) => ∃ a, v = .ref a ∧ H5 a = some (.tup [.int (x.1 : Int), .int (x.2 : Int)])) lvs.reverse l.reverse := by
    have : ∀ {R : V → Nat × Nat → Prop} {xs : List V} {ys : List (Nat × Nat)}, All2 R xs ys → All2 R xs.reverse ys.reverse := by
      intro R xs ys h
      induction h with
      | nil => exact .nil
      | cons a _ ih => rw [List.reverse_cons, List.reverse_cons]; exact ih.snoc a
    exact this hlv
  refine lc_tup (xs := lvs.reverse) (fun i H' => Same H5 H' ∧ H' D = some (.lst ((l.reverse.take i).map fun x => V.int (x.1 : Int)))) ⟨Same.new hD, upd_same⟩ ?_ ?_ ?_
  · rintro i H' hi ⟨g, h1⟩
    exact SqT.of (g.at_ hlp)
  · rintro i v H' hi ⟨g, h1⟩
    obtain ⟨x, hx, xa, rfl, hxa⟩ := hrev.get' hi
    have hi2 := (List.getElem?_eq_some_iff.mp hi).1
    rw [List.length_reverse] at hi2
    refine ⟨_, _, rfl, SqT.of (g.at_ hxa), rfl, _, _, rfl, _, _, rfl, rfl, rfl, _, rfl, _, h1, ?_, Same.mut g hD, ?_⟩
    · rw [List.length_map, List.length_take]; exact szlt (by omega)
    · rw [upd_same, List.take_add_one, hx, List.map_append]; rfl
  rintro H6 ⟨g6, h6⟩
  have e6 : lvs.reverse.length = l.reverse.length := by rw [List.length_reverse, List.length_reverse, ll]
  rw [e6, List.take_length] at h6
  refine ⟨D, _, rfl, .inl ⟨SqL.of h6, fun t7 ht7 => ?_⟩⟩
  have g57 := Same.then_ g6 (o := .tup (l.reverse.map fun x => V.int (x.1 : Int))) ht7
  have g17 := g15.trans g57
  have dO : Dp K (upd H6 t7 (.tup (l.reverse.map fun x => V.int (x.1 : Int)))) v5 (.tuple ((l.reverse.map fun x : Nat × Nat => (x.1 : Int)).map PyData.int)) := by
    obtain ⟨oa, rfl, eo⟩ := ho5
    refine .tup (SqT.of (g57.at_ eo)) ?_
    have e1 : ((st.op.map fun r => V.int (r.1 : Int)).reverse) = (l.reverse.map fun x : Nat × Nat => (x.1 : Int)).map V.int := by
      rw [fst_v S, ← List.map_reverse, List.map_map]; rfl
    rw [e1]
    exact dpAll_map fun x _ => .int x
  have dL : Dp K (upd H6 t7 (.tup (l.reverse.map fun x => V.int (x.1 : Int)))) (.ref t7) (.tuple ((l.reverse.map fun x : Nat × Nat => (x.1 : Int)).map PyData.int)) := by
    refine .tup (SqT.of upd_same) ?_
    have e4 : (l.reverse.map fun x => V.int (x.1 : Int)) = (l.reverse.map fun x : Nat × Nat => (x.1 : Int)).map V.int := by rw [List.map_map]; rfl
    rw [e4]
    exact dpAll_map fun x _ => .int x
  have shO : Sh (.tuple ((l.reverse.map fun x : Nat × Nat => (x.1 : Int)).map PyData.int)) 1 := dSm_sh (s := l.reverse.map fun x : Nat × Nat => (x.1 : Int))
  refine ⟨_, _, dO, dL, shO.ok (by decide), shO.ok (by decide), _, rfl, itF ?_ ?_⟩
  · rw [SeqAt.eqv_refl _ shO.c]; rfl
  refine ⟨_, rfl, r, dx, _, rfl, g17.at_ hr0, nf (by decide +kernel) (by decide +kernel) (by decide +kernel), r, pl, sc, bx, cells, rs, zs, ps ++ [st], rfl, R.same g17, ?_⟩
  have tvl := htv.len
  refine ⟨_, rfl, t, _, rfl, .inl (SqL.of (g17.at_ ht)), _, _, rfl, rfl, rfl, _, rfl, itF ?_ ?_⟩
  · have e8 : ((ps ++ [st]).length : Int) - 1 = ((tvs ++ [V.ref a]).length : Int) - 1 := by rw [List.length_append, List.length_append, tvl]; rfl
    show (!decide (V.int (((ps ++ [st]).length : Int) - 1) = V.int (((tvs ++ [V.ref a]).length : Int) - 1))) = false
    rw [e8, decide_eq_true rfl]; rfl
  have ha7 := g57.at_ ha
  refine ⟨_, rfl, r, dx, _, rfl, g17.at_ hr0, nf (by decide +kernel) (by decide +kernel) (by decide +kernel), r, pl, sc, bx, cells, rs, zs, ps, st, rfl, R.same g17, fun v8 hs8 => ?_⟩
  refine ⟨_, rfl, _, _, _, _, rfl, rfl, SqT.of (ha7), atI_nat (j := 1) rfl, dSm st.held, dSm st.held, hs8.dp, (hh.mono (Same.tups g57)).dp, dSm_sh.ok (by decide), dSm_sh.ok (by decide), _, rfl, itT ?_ ?_⟩
  · exact SeqAt.eqv_refl _ dSm_sh.c
  refine ⟨_, rfl, r, dx, _, rfl, g17.at_ hr0, nf (by decide +kernel) (by decide +kernel) (by decide +kernel), r, pl, sc, bx, cells, rs, zs, ps, st, rfl, R.same g17, fun v9 hs9 => ?_⟩
  refine ⟨_, rfl, _, _, _, _, rfl, rfl, SqT.of (ha7), atI_nat (j := 2) rfl, dPos st.pos, dPos st.pos, hs9.dp, (hP.mono (Same.tups g57)).dp, dPos_sh.ok (by decide), dPos_sh.ok (by decide), ?_⟩
  rw [SeqAt.eqv_refl _ dPos_sh.c]
  exact q _ g17
end
end K34

set_option Elab.async false
set_option linter.all false
set_option maxRecDepth 100000
set_option maxHeartbeats 4000000
/-! D19: deeds. -/
namespace K34
open PySem PySem.Spec PyProof.Rows L2
open He (ga ma)
def spGone : Sp := fun vs H Q _ => ∃ (cd sz t : Addr) (n cells : Nat) (rs : List (List Stm)) (zs : List (Int × Int)) (ps : List PSt) (st : PSt), vs = [.ref cd, .ref sz, .ref t, .int (n : Int)] ∧ CdsA H cd rs ∧ SizA H sz zs ∧ TrlA rs H t (ps ++ [st]) ∧ Sc cells rs zs.length ∧ Good rs cells zs.length st ∧ n ≤ 9 ∧ ps.length ≤ 900 ∧ ∀ t' H', Same H H' → TrlA rs H' t' (goneP rs zs zs.length n (ps ++ [st]) st) → Q (.ref t') H'
def spDid (K : PySem.W.Frag) : Sp := fun vs H Q _ => ∃ (r pl sc bx : Addr) (which : Int) (v : V) (t : String) (cells : Nat) (rs : List (List Stm)) (zs : List (Int × Int)) (ps : List PSt) (st : PSt), vs = [.ref r, .int which, v] ∧ RunA K H r pl sc bx cells rs zs (ps ++ [st]) ∧ Sc cells rs zs.length ∧ ps.length ≤ 900 ∧ KTy H v t ∧
  (which = 0 → (wordP zs.length st = .runs → ∀ H', Ext pl H H' → RunA K H' r pl sc bx cells rs zs (ps ++ [st] ++ [behindP rs zs st]) → Q .non H') ∧ (wordP zs.length st ≠ .runs → ∀ H', Same H H' → Q (.str "not running") H')) ∧
  (which = 1 → (ps ≠ [] → ∀ H', Ext pl H H' → RunA K H' r pl sc bx cells rs zs ps → Q .non H') ∧ (ps = [] → Q (.str "nothing done") H)) ∧
  (which ≠ 0 → which ≠ 1 → (inW 0 5000 v = false → Q (.str "no number") H) ∧ (inW 0 5000 v = true → ∃ n : Nat, v = .int (n : Int) ∧ n ≤ 9 ∧ ∀ H', Ext pl H H' → RunA K H' r pl sc bx cells rs zs (goneP rs zs zs.length n (ps ++ [st]) st) → Q (.int (((goneP rs zs zs.length n (ps ++ [st]) st).length : Int) - ((ps ++ [st]).length : Int))) H'))
def spRef (K : PySem.W.Frag) : Sp := fun vs H Q _ => ∃ (sc bx : Addr) (v : V) (cells : Nat) (rs : List (List Stm)) (zs : List (Int × Int)), vs = [.ref sc, .ref bx, v] ∧ ScnA K H sc cells rs ∧ BxsA K H bx zs ∧ Sc cells rs zs.length ∧ Cont H (cells : Int) v false ∧ ∀ H', Same H H' → Q (.bl true) H'
/-- all but the hand and the runner's own list -/
structure F2 (h pl c : Addr) (H H' : Hp) : Prop where
  e : ∀ b o, H b = some o → b ≠ h → b ≠ pl → H' b = some o
  h1 : Hand c H' h
def spDeed (K : PySem.W.Frag) : Sp := fun vs H Q _ => ∃ (h c r pl sc bx cd sz t : Addr) (cells : Nat) (rs : List (List Stm)) (zs : List (Int × Int)) (ps : List PSt) (st : PSt), vs = [.ref h, .ref r, .ref cd, .ref sz, .ref t] ∧ Hand c H h ∧ RunA K H r pl sc bx cells rs zs (ps ++ [st]) ∧ CdsA H cd rs ∧ SizA H sz zs ∧ TrlA rs H t (ps ++ [st]) ∧ Sc cells rs zs.length ∧ ps.length ≤ 800 ∧
  ∀ t' ps' st' H', F2 h pl c H H' → RunA K H' r pl sc bx cells rs zs (ps' ++ [st']) → TrlA rs H' t' (ps' ++ [st']) → ps'.length ≤ ps.length + 9 → Q (.ref t') H'
theorem kty_hx {H H' : Hp} {h c : Addr} {v : V} {t : String} (hx : Hx h c H H') (hk : KTy H v t) : ∃ t', KTy H' v t' ∧ t' = t := by
  cases hk with
  | non => exact ⟨_, .non, rfl⟩
  | bl b => exact ⟨_, .bl b, rfl⟩
  | int b => exact ⟨_, .int b, rfl⟩
  | str b => exact ⟨_, .str b, rfl⟩
  | lst e => exact ⟨_, .lst (hx.l e), rfl⟩
  | tup e => exact ⟨_, .tup (hx.t e), rfl⟩
  | @dK a kvs e =>
    by_cases z : a = h
    · subst z
      obtain ⟨kvs', e'⟩ := hx.h1.dk
      exact ⟨_, .dK e', rfl⟩
    · exact ⟨_, .dK (hx.e _ _ e z), rfl⟩
theorem goneP_last {rs : List (List Stm)} {zs : List (Int × Int)} {m : Nat} : ∀ (n : Nat) (ps : List PSt) (st : PSt), ∃ ps' st', goneP rs zs m n (ps ++ [st]) st = ps' ++ [st'] ∧ ps'.length ≤ ps.length + n
  | 0, ps, st => ⟨ps, st, rfl, Nat.le_refl _⟩
  | n + 1, ps, st => by
    by_cases c : wordP m st = .runs
    · obtain ⟨ps', st', e, hl⟩ := goneP_last (rs := rs) (zs := zs) (m := m) n (ps ++ [st]) (behindP rs zs st)
      refine ⟨ps', st', ?_, ?_⟩
      · show (if wordP m st = .runs then goneP rs zs m n (ps ++ [st] ++ [behindP rs zs st]) (behindP rs zs st) else ps ++ [st]) = _
        rw [if_pos c, e]
      · rw [List.length_append, List.length_singleton] at hl; omega
    · refine ⟨ps, st, ?_, by omega⟩
      show (if wordP m st = .runs then goneP rs zs m n (ps ++ [st] ++ [behindP rs zs st]) (behindP rs zs st) else ps ++ [st]) = _
      rw [if_neg c]
section
variable {P : Program} {w : World} {K : PySem.W.Frag} {mg : Str → Option Value} {base : Heap}
theorem ok_lgone (T : Facts w K mg) : OkF P w K mg base CX0 4 "_law_gone" ["_law_codes_here", "_law_sizes_here", "_law_trail", "_law_most"] spGone := by
  have G__law_word := ok_lword (P := P) (base := base) T
  have G__law_stepped := ok_lstepped (P := P) (base := base) T
  refine T.d__law_gone.ok sc__law_gone bb__law_gone (fun vs H Q E h => ?_) (fun f cdv A outer s H vs Q E hr h => ?_)
  · obtain ⟨_, _, _, _, _, _, _, _, _, rfl, _⟩ := h; rfl
  obtain ⟨cd, sz', t, n, cells, rs, zs, ps, st, rfl, hc, hsz, hT, O, hg, hn, hl, q⟩ := h
  obtain ⟨tvs, ht, htv⟩ := id hT
  have tvl := htv.len
  refine ⟨_, (pss_cons (ps_set (i := 4) sc__law_gone.nd rfl (Or.inl rfl) (pe_callTy call_list_of (by rfl) T.b_list bv_list (pa_cons (pv 2) pa_nil)))
      (pss_cons (ps_for PassesOwn.never rfl (pi_range1 (by rfl) T.b_range (pa_cons (pv 3) pa_nil)) (pg_name (i := 5) sc__law_gone.nd rfl (Or.inl rfl)) (pss_one (ps_if (pt_cmpR op_eq (pe_cal G__law_word (hr.mono (by first | decide | omega)) (pa_cons (pv 0) (pa_cons (pv 1) (pa_cons (pe_ix ix_list (pv 4) (pe_un un_neg pe_int) (fun _ _ => rfl)) pa_nil)))) pe_str (nomark _)) (pss_one (ps_expr (pe_bm PySem.F.plainAttrs_list PySem.F.slot_list_append PySem.F.type_list_append mt_append (pv 4) (pa_cons (pe_cal G__law_stepped (hr.mono (by first | decide | omega)) (pa_cons (pv 0) (pa_cons (pv 1) (pa_cons (pe_ix ix_list (pv 4) (pe_un un_neg pe_int) (fun _ _ => rfl)) pa_nil)))) pa_nil)))) pss_nil)))
      (pss_one (ps_ret (pv 4))))), ?_⟩
  refine ⟨_, rfl, t, _, rfl, .inl (SqL.of ht), fun l hl0 => ?_⟩
  refine ⟨_, rfl, _, rfl, by omega, by omega, ?_⟩
  refine for_range (n := ((n : Int)).toNat) (fun i σ H' => (∃ x, σ = [some (.ref cd), some (.ref sz'), some (.ref t), some (.int (n : Int)), some (.ref l), x]) ∧ Same H H' ∧ ∃ acc s1, TrlA rs H' l (acc ++ [s1]) ∧ Good rs cells zs.length s1 ∧ acc.length ≤ ps.length + i ∧ goneP rs zs zs.length (n - i) (acc ++ [s1]) s1 = goneP rs zs zs.length n (ps ++ [st]) st)
    ⟨⟨none, rfl⟩, Same.new hl0, ps, st, ⟨tvs, upd_same, htv.mono fun _ _ r => r.mono (Same.tups (Same.new hl0))⟩, hg, by omega, rfl⟩ ?_ ?_
  · rintro i σ H' hi ⟨⟨x, rfl⟩, g, acc, s1, hTl, hg1, hal, he⟩
    have hi : i < ((n : Int)).toNat := hi
    have hni : n - i = (n - (i + 1)) + 1 := by omega
    obtain ⟨vs, v, hl1, hL, hvs⟩ := hTl.last
    have vl := hvs.len
    refine ⟨_, rfl, _, rfl, _, rfl, _, rfl, _, _, _, _, rfl, rfl, SqL.of hl1, at_last rfl, cd, sz', v, cells, rs, zs, s1, rfl, hc.same g, hsz.mono (Same.tups g), hL, O.st hg1, fun H2 g2 => ⟨rfl, _, rfl, ?_⟩⟩
    have ewr : decide (V.str (wrS (wordP zs.length s1)) = V.str "runs") = decide (wordP zs.length s1 = .runs) := by cases wordP zs.length s1 <;> decide +kernel
    have hl2 := g2.at_ hl1
    have g02 := g.trans g2
    rw [hni] at he
    have he' : (if wordP zs.length s1 = .runs then goneP rs zs zs.length (n - (i + 1)) (acc ++ [s1] ++ [behindP rs zs s1]) (behindP rs zs s1) else acc ++ [s1]) = goneP rs zs zs.length n (ps ++ [st]) st := he
    by_cases c : wordP zs.length s1 = .runs
    · rw [if_pos c] at he'
      refine itT (by rw [ewr, decide_eq_true c]) ?_
      refine ⟨_, rfl, .inl ⟨rfl, _, SqL.of hl2⟩, _, rfl, _, rfl, _, rfl, _, rfl, _, _, _, _, rfl, rfl, SqL.of hl2, at_last rfl, cd, sz', v, cells, rs, zs, s1, rfl, hc.same g02, hsz.mono (Same.tups g02), hL.mono (Same.tups g2), O.st hg1, c, fun v' H3 g3 hL' => ?_⟩
      have hl3 := g3.at_ hl2
      refine ⟨l, _, _, rfl, rfl, hl3, szlt (by rw [List.length_append, List.length_singleton]; omega), ?_⟩
      have gE : Ext l H3 (upd H3 l (.lst (vs ++ [v] ++ [v']))) := Ext.refl.upd
      have kk := (gE.kpL hl3).t
      have kk2 : Tups H' (upd H3 l (.lst (vs ++ [v] ++ [v']))) := Tups.trans (Same.tups (g2.trans g3)) kk
      refine ⟨⟨_, rfl⟩, Same.mut (g02.trans g3) hl0, acc ++ [s1], behindP rs zs s1, ⟨_, upd_same, ((hvs.mono fun _ _ r => r.mono kk2).snoc (hL.mono kk2)).snoc (hL'.mono kk)⟩, hg1.step O.R c, by rw [List.length_append, List.length_singleton]; omega, he'⟩
    · rw [if_neg c] at he'
      refine itF (by rw [ewr, decide_eq_false c]) ?_
      refine ⟨⟨_, rfl⟩, g02, acc, s1, ⟨_, hl2, (hvs.mono fun _ _ r => r.mono (Same.tups g2)).snoc (hL.mono (Same.tups g2))⟩, hg1, by omega, ?_⟩
      rw [← he']
      cases n - (i + 1) with
      | zero => rfl
      | succ k =>
        show (if wordP zs.length s1 = .runs then goneP rs zs zs.length k (acc ++ [s1] ++ [behindP rs zs s1]) (behindP rs zs s1) else acc ++ [s1]) = _
        rw [if_neg c]
  · rintro σ H' ⟨⟨x, rfl⟩, g, acc, s1, hTl, hg1, hal, he⟩
    refine ⟨_, rfl, q l H' g ?_⟩
    have e0 : n - ((n : Int)).toNat = 0 := by omega
    rw [e0] at he
    rw [← he]
    exact hTl
theorem ok_ldid (T : Facts w K mg) : OkF P w K mg base CX0 9 "_law_did" ["_law_runner", "_law_which", "_law_most"] (spDid K) := by
  have G_SceneRunner_step := ok_Runner_step (P := P) (base := base) T
  have G_SceneRunner_back := ok_Runner_back (P := P) (base := base) T
  have G_SceneRunner_go := ok_Runner_go (P := P) (base := base) T
  refine T.d__law_did.ok sc__law_did bb__law_did (fun vs H Q E h => ?_) (fun f cdv A outer s H vs Q E hr h => ?_)
  · obtain ⟨_, _, _, _, _, _, _, _, _, _, _, _, rfl, _⟩ := h; rfl
  obtain ⟨r, pl, sc, bx, which, v, t, cells, rs, zs, ps, st, rfl, R, O, hl, hk, q0, q1, q2⟩ := h
  obtain ⟨dx, hr0⟩ := R.ob
  have nf : ∀ {m : Str}, (m == ("scene" : Str)) = false → (m == ("sized" : Str)) = false → (m == ("past" : Str)) = false → (fRun (.ref sc) (.ref bx) (.ref pl)).lookup m = none := fun a b c => fRun_no a b c
  refine ⟨_, (pss_cons (ps_try_many rfl rfl takes_none5 (fun W pn xe tk _ => (pss_one (ps_if (pt_cmpR op_eq (pv 1) pe_int (nomark _)) (pss_one (ps_set (i := 3) sc__law_did.nd rfl (Or.inl rfl) (pe_mcal0W G_SceneRunner_step T.cl_SceneRunner (hr.mono (by first | decide | omega)) tk (pv 0)))) (pss_one (ps_if (pt_cmpR op_eq (pv 1) pe_int (nomark _)) (pss_one (ps_set (i := 3) sc__law_did.nd rfl (Or.inl rfl) (pe_mcal0W G_SceneRunner_back T.cl_SceneRunner (hr.mono (by first | decide | omega)) tk (pv 0)))) (pss_one (ps_set (i := 3) sc__law_did.nd rfl (Or.inl rfl) (pe_mcalW G_SceneRunner_go T.cl_SceneRunner (hr.mono (by first | decide | omega)) tk (pv 0) (pa_cons (pv 2) pa_nil))))))))) (HdsOk.cons ⟨rfl, by decide, .inl T.g_NotRunning⟩ (fun a oe cls d pn _ _ => (pss_one (ps_ret pe_str))) (HdsOk.cons ⟨rfl, by decide, .inl T.g_NothingDone⟩ (fun a oe cls d pn _ _ => (pss_one (ps_ret pe_str))) (HdsOk.cons ⟨rfl, by decide, .inl T.g_NoNumber⟩ (fun a oe cls d pn _ _ => (pss_one (ps_ret pe_str))) HdsOk.nil))))
      (pss_one (ps_ret (pv 3)))), ?_⟩
  refine ⟨_, rfl, rfl, _, rfl, ?_⟩
  by_cases c0 : which = 0
  · obtain ⟨qa, qb⟩ := q0 c0
    refine itT (by rw [c0]; decide) ?_
    refine ⟨_, rfl, r, dx, _, rfl, hr0, nf (by decide +kernel) (by decide +kernel) (by decide +kernel), r, pl, sc, bx, cells, rs, zs, ps, st, rfl, R, O, by omega, fun c H' gE R' => ⟨_, rfl, qa c H' gE R'⟩, fun c H' g => ?_⟩
    exact ⟨true, T.m_NotRunning_NotRunning, fun _ a ha => qb c H' g, fun z => by cases z⟩
  · refine itF (decide_eq_false fun z => c0 (V.int.inj z)) ⟨_, rfl, rfl, _, rfl, ?_⟩
    by_cases c1 : which = 1
    · obtain ⟨qa, qb⟩ := q1 c1
      refine itT (by rw [c1]; decide) ?_
      refine ⟨_, rfl, r, dx, _, rfl, hr0, nf (by decide +kernel) (by decide +kernel) (by decide +kernel), r, pl, sc, bx, cells, rs, zs, ps, st, rfl, R, fun c H' gE R' => ⟨_, rfl, qa c H' gE R'⟩, fun c => ?_⟩
      exact ⟨false, T.m_NothingDone_NotRunning, (fun z => by cases z), fun _ => ⟨true, T.m_NothingDone_NothingDone, fun _ a ha => qb c, fun z => by cases z⟩⟩
    · obtain ⟨qa, qb⟩ := q2 c0 c1
      refine itF (decide_eq_false fun z => c1 (V.int.inj z)) ?_
      refine ⟨_, rfl, r, dx, _, rfl, hr0, nf (by decide +kernel) (by decide +kernel) (by decide +kernel), _, rfl, r, pl, sc, bx, v, t, cells, rs, zs, ps, st, rfl, R, O, by omega, hk, fun c => ?_, fun c => ?_⟩
      · exact ⟨false, T.m_NoNumber_NotRunning, (fun z => by cases z), fun _ => ⟨false, T.m_NoNumber_NothingDone, (fun z => by cases z), fun _ => ⟨true, T.m_NoNumber_NoNumber, fun _ a ha => qa c, fun z => by cases z⟩⟩⟩
      · obtain ⟨n, e, hn, q⟩ := qb c
        exact ⟨n, e, hn, fun H' gE R' => ⟨_, rfl, q H' gE R'⟩⟩
theorem ok_lrefused (T : Facts w K mg) : OkF P w K mg base CX0 6 "_law_is_refused" ["_law_scene", "_law_boxes", "_law_begins"] (spRef K) := by
  have C_SceneRunner := ok_Runner (P := P) (base := base) T
  refine T.d__law_is_refused.ok sc__law_is_refused bb__law_is_refused (fun vs H Q E h => ?_) (fun f cdv A outer s H vs Q E hr h => ?_)
  · obtain ⟨_, _, _, _, _, _, rfl, _⟩ := h; rfl
  obtain ⟨sc, bx, v, cells, rs, zs, rfl, hsc, hbx, O, hc, q⟩ := h
  refine ⟨_, (pss_cons (ps_try_only rfl rfl ⟨rfl, by decide, .inl T.g_NoContents⟩ takes0 (fun W pn xe tk _ => (pss_one (ps_expr (pe_mkW C_SceneRunner (hr.mono (by first | decide | omega)) tk (pa_cons (pv 0) (pa_cons (pv 1) (pa_cons (pv 2) pa_nil))))))) (fun a oe cls d pn _ _ => (pss_one (ps_ret pe_bl))))
      (pss_one (ps_ret pe_bl))), ?_⟩
  refine ⟨_, rfl, _, rfl, _, rfl, ?_⟩
  intro x xd nx nxd nex
  have g1 : Same H (upd (upd H xd (.own x)) x (.ins (ga K "SceneRunner") xd [])) := Same.mut (Same.mut Same.refl' nxd) nx
  refine ⟨x, xd, sc, bx, v, cells, rs, zs, false, rfl, upd_same, hsc.mono (Same.kp g1), hbx.mono (Same.kp g1), O, ?_, fun _ H' g => ?_, fun z => by cases z⟩
  · rcases hc with ⟨a, xs, rfl, e, hx, hl, hb⟩ | ⟨t, hk, hn, hb⟩
    · refine .inl ⟨a, xs, rfl, g1.at_ e, fun y m => ?_, hl, hb⟩
      obtain ⟨t, hk⟩ := hx y m
      cases hk with
      | non => exact ⟨_, .non⟩
      | bl b => exact ⟨_, .bl b⟩
      | int b => exact ⟨_, .int b⟩
      | str b => exact ⟨_, .str b⟩
      | lst e => exact ⟨_, .lst (g1.at_ e)⟩
      | tup e => exact ⟨_, .tup (g1.at_ e)⟩
      | dK e => exact ⟨_, .dK (g1.at_ e)⟩
    · refine .inr ⟨t, ?_, hn, hb⟩
      cases hk with
      | non => exact .non
      | bl b => exact .bl b
      | int b => exact .int b
      | str b => exact .str b
      | lst e => exact .lst (g1.at_ e)
      | tup e => exact .tup (g1.at_ e)
      | dK e => exact .dK (g1.at_ e)
  · exact ⟨true, T.m_NoContents_NoContents, fun _ a ha => q H' (g1.trans g), fun z => by cases z⟩
end
end K34

set_option Elab.async false
set_option linter.all false
set_option maxRecDepth 100000
set_option maxHeartbeats 4000000
/-! D20: a deed, by the runner and by the law's machine. -/
namespace K34
open PySem PySem.Spec PyProof.Rows L2
open He (ga ma)
section
variable {K : PySem.W.Frag} {H H1 H' : Hp} {h c r pl sc bx cd sz t : Addr} {cells : Nat} {rs : List (List Stm)} {zs : List (Int × Int)} {ps : List PSt} {st : PSt}
theorem RunA.hx (R : RunA K H r pl sc bx cells rs zs ps) (x : Hx h c H H') : RunA K H' r pl sc bx cells rs zs ps := R.keep x.kp fun _ e => x.l e
theorem CdsA.hx (C : CdsA H cd rs) (x : Hx h c H H') : CdsA H' cd rs := let ⟨kvs, e⟩ := x.h0.dk; C.ext x.e e
theorem TrlA.hx (C : TrlA rs H t ps) (x : Hx h c H H') : TrlA rs H' t ps := C.kept x.tups fun _ e => x.l e
theorem TrlA.same (C : TrlA rs H t ps) (x : Same H H') : TrlA rs H' t ps := C.kept (Same.tups x) fun _ e => x.at_ e
theorem kbn : PySem.W.kitOne K (.type "NoneType") (.type "bool") = some false := KTy.kbool (H := fun _ => none) (v := .non) .non
theorem kbs : PySem.W.kitOne K (.type "str") (.type "bool") = some false := KTy.kbool (H := fun _ => none) (v := .str "") (.str "")
theorem kbi : PySem.W.kitOne K (.type "int") (.type "bool") = some false := KTy.kbool (H := fun _ => none) (v := .int 0) (.int 0)
/-- the trail is not the runner's list -/
theorem ne_pl (R : RunA K H r pl sc bx cells rs zs (ps ++ [st])) {ps2 : List PSt} {st2 : PSt} (C : TrlA rs H t (ps2 ++ [st2])) : t ≠ pl := by
  intro e
  subst e
  obtain ⟨vs, v, e1, hS, _⟩ := R.last
  obtain ⟨vs2, v2, e2, hL, _⟩ := C.last
  rw [e1] at e2
  have e3 := HO.lst.inj (Option.some.inj e2)
  have e4 : v = v2 := by
    have := congrArg List.getLast? e3
    rw [List.getLast?_concat, List.getLast?_concat] at this
    exact Option.some.inj this
  subst e4
  obtain ⟨a, dx, po, vh, vp, rfl, ea, _⟩ := hS
  obtain ⟨a2, p2, vh2, vp2, l2, e5, ea2, _⟩ := hL
  cases e5
  rw [ea] at ea2
  cases ea2
theorem CdA_ne (R : RunA K H r pl sc bx cells rs zs (ps ++ [st])) : True := trivial
theorem Hand.extR (x : Hand c H h) (R : RunA K H r pl sc bx cells rs zs (ps ++ [st])) (y : Ext pl H H') : Hand c H' h := by
  obtain ⟨vs, v, e1, hS, _⟩ := R.last
  obtain ⟨cl, a, g, s, t, e, ec, a0⟩ := x
  have n1 : h ≠ pl := ne_of e e1 (by intro z; cases z)
  have n2 : c ≠ pl := by
    intro z
    subst z
    rw [e1] at ec
    have e3 := HO.lst.inj (Option.some.inj ec)
    obtain ⟨a, dx, po, vh, vp, rfl, ea, _⟩ := hS
    have : V.ref a ∈ cl.map V.int := by rw [← e3]; simp
    obtain ⟨z, _, ez⟩ := List.mem_map.mp this
    cases ez
  exact ⟨cl, a, g, s, t, y _ _ e n1, y _ _ ec n2, a0⟩
theorem F2.of (x : Hx h c H H1) (y : Ext pl H1 H') (k : Hand c H' h) : F2 h pl c H H' := ⟨fun b o e n1 n2 => y _ _ (x.e _ _ e n1) n2, k⟩
theorem F2.hx (x : Hx h c H H1) : F2 h pl c H H1 := ⟨fun b o e n1 _ => x.e _ _ e n1, x.h1⟩
theorem TrlA.extL (C : TrlA rs H t (ps ++ [st])) {ps2 : List PSt} {st2 : PSt} (R : RunA K H r pl sc bx cells rs zs (ps2 ++ [st2])) (y : Ext pl H H') : TrlA rs H' t (ps ++ [st]) := by
  obtain ⟨vs, v, e1, hS, _⟩ := R.last
  exact C.kept (y.kpL e1).t fun _ e => y _ _ e (ne_pl R C)
theorem TrlA.len (C : TrlA rs H t ps) : ∃ vs, H t = some (.lst vs) ∧ vs.length = ps.length := let ⟨vs, e, x⟩ := C; ⟨vs, e, x.len⟩
end
section
variable {P : Program} {w : World} {K : PySem.W.Frag} {mg : Str → Option Value} {base : Heap}
theorem ok_ldeed (T : Facts w K mg) : OkF P w K mg base CX0 10 "_law_deed" ["_law_hand_here", "_law_runner", "_law_codes_here", "_law_sizes_here", "_law_trail"] (spDeed K) := by
  have G__law_did := ok_ldid (P := P) (base := base) T
  have G__law_gone := ok_lgone (P := P) (base := base) T
  have G__law_any := ok_any (P := P) (base := base) T
  have G__law_deep := ok_ldeep (P := P) (base := base) T
  refine T.d__law_deed.ok sc__law_deed bb__law_deed (fun vs H Q E h => ?_) (fun f cdv A outer s H vs Q E hr h => ?_)
  · obtain ⟨_, _, _, _, _, _, _, _, _, _, _, _, _, _, rfl, _⟩ := h; rfl
  obtain ⟨h, c, r, pl, sc, bx, cd, sz', t, cells, rs, zs, ps, st, rfl, hh, R, hc, hsz, hT, O, hl, q⟩ := h
  refine ⟨_, (pss_cons (ps_set (i := 5) sc__law_deed.nd rfl (Or.inl rfl) (pe_cal G__law_any (hr.mono (by first | decide | omega)) (pa_cons (pv 0) (pa_cons (pe_lst (pa_cons pe_int (pa_cons pe_int (pa_cons pe_int (pa_cons pe_int (pa_cons pe_int (pa_cons pe_int (pa_cons pe_int (pa_cons pe_int (pa_cons pe_int pa_nil)))))))))) pa_nil))))
      (pss_cons (ps_par3 (i := 6) (j := 7) (l := 8) rfl sc__law_deed.nd rfl rfl rfl (by decide) (by decide) (by decide) rfl rfl rfl (pa_cons pe_non (pa_cons pe_non (pa_cons (pe_callTy call_list_of (by rfl) T.b_list bv_list (pa_cons (pv 4) pa_nil)) pa_nil))) (by rfl))
      (pss_cons (ps_if (pt_cmpR op_eq (pv 5) pe_int (nomark _)) (pss_cons (ps_set (i := 8) sc__law_deed.nd rfl (Or.inl rfl) (pe_cal G__law_gone (hr.mono (by first | decide | omega)) (pa_cons (pv 2) (pa_cons (pv 3) (pa_cons (pv 4) (pa_cons pe_int pa_nil))))))
      (pss_one (ps_set (i := 7) sc__law_deed.nd rfl (Or.inl rfl) (pe_ifExp (pt_cmpR op_gt (pe_callB call_len_seq (by rfl) T.b_len PySem.boot_len (pa_cons (pv 8) pa_nil)) (pe_callB call_len_seq (by rfl) T.b_len PySem.boot_len (pa_cons (pv 4) pa_nil)) (nomark _)) pe_non pe_str)))) (pss_one (ps_if (pt_cmpR op_eq (pv 5) pe_int (nomark _)) (pss_cons (ps_set (i := 7) sc__law_deed.nd rfl (Or.inl rfl) (pe_ifExp (pt_cmpR op_gt (pe_callB call_len_seq (by rfl) T.b_len PySem.boot_len (pa_cons (pv 4) pa_nil)) pe_int (nomark _)) pe_non pe_str))
      (pss_one (ps_set (i := 8) sc__law_deed.nd rfl (Or.inl rfl) (pe_ifExp (pt_cmpR op_gt (pe_callB call_len_seq (by rfl) T.b_len PySem.boot_len (pa_cons (pv 4) pa_nil)) pe_int (nomark _)) (pe_slice sl_list (pv 4) po_none (po_some (pe_un un_neg pe_int))) (pv 4))))) (pss_cons (ps_set (i := 6) sc__law_deed.nd rfl (Or.inl rfl) (pe_cal G__law_any (hr.mono (by first | decide | omega)) (pa_cons (pv 0) (pa_cons (pe_lst (pa_cons pe_int (pa_cons pe_int (pa_cons pe_int (pa_cons pe_int (pa_cons pe_int (pa_cons pe_int (pa_cons (pe_un un_neg pe_int) (pa_cons pe_int (pa_cons pe_bl (pa_cons pe_non (pa_cons pe_str (pa_cons (pe_tup (pa_cons pe_int pa_nil)) (pa_cons (pe_op op_pow pe_int pe_int) (pa_cons (pe_cal G__law_deep (hr.mono (by first | decide | omega)) (pa_cons (pv 0) pa_nil)) pa_nil))))))))))))))) pa_nil))))
      (pss_cons (ps_set (i := 7) sc__law_deed.nd rfl (Or.inl rfl) pe_str)
      (pss_one (ps_if (PW.pt (pw_and (pt_val (pe_callB call_isi (by rfl) T.b_isinstance bv_isinstance (pa_cons (pv 6) (pa_cons (pe_bty T.b_int bv_int) pa_nil)))) (pw_and (pt_not (pt_val (pe_callB call_isi (by rfl) T.b_isinstance bv_isinstance (pa_cons (pv 6) (pa_cons (pe_bty T.b_bool bv_bool) pa_nil))))) (pw_and1 (pt_chain op_le op_le pe_int (pv 6) pe_int))))) (pss_cons (ps_set (i := 8) sc__law_deed.nd rfl (Or.inl rfl) (pe_cal G__law_gone (hr.mono (by first | decide | omega)) (pa_cons (pv 2) (pa_cons (pv 3) (pa_cons (pv 4) (pa_cons (pv 6) pa_nil))))))
      (pss_one (ps_set (i := 7) sc__law_deed.nd rfl (Or.inl rfl) (pe_op op_sub (pe_callB call_len_seq (by rfl) T.b_len PySem.boot_len (pa_cons (pv 8) pa_nil)) (pe_callB call_len_seq (by rfl) T.b_len PySem.boot_len (pa_cons (pv 4) pa_nil)))))) pss_nil)))))))
      (pss_cons (ps_set (i := 9) sc__law_deed.nd rfl (Or.inl rfl) (pe_cal G__law_did (hr.mono (by first | decide | omega)) (pa_cons (pv 1) (pa_cons (pv 5) (pa_cons (pv 6) pa_nil)))))
      (pss_one (ps_ret (pe_ifExp (PW.pt (pw_and (pt_cmpR op_eq (pv 9) (pv 7) (nomark _)) (pw_and1 (pt_cmpR op_eq (pe_callB call_isi (by rfl) T.b_isinstance bv_isinstance (pa_cons (pv 9) (pa_cons (pe_bty T.b_bool bv_bool) pa_nil))) (pe_callB call_isi (by rfl) T.b_isinstance bv_isinstance (pa_cons (pv 7) (pa_cons (pe_bty T.b_bool bv_bool) pa_nil))) (nomark _))))) (pv 8) pe_non))))))), ?_⟩
  refine ⟨_, rfl, (by show 9 ≤ sizeLine; decide), fun l1 hl1 => ⟨h, c, l1, _, fun v => v = .int 0 ∨ v = .int 1 ∨ v = .int 2, rfl, ((Hx.refl hh).new hl1).h1, upd_same, by simp, by show 9 ≤ 100; omega, fa (.inl rfl) (fa (.inl rfl) (fa (.inl rfl) (fa (.inl rfl) (fa (.inl rfl) (fa (.inr (.inl rfl)) (fa (.inr (.inl rfl)) (fa (.inr (.inr rfl)) (fa (.inr (.inr rfl)) fn)))))))), fun v H2 hv hx2 => ?_⟩⟩
  have hx12 := ((Hx.refl hh).new (o := .lst [V.int 0, V.int 0, V.int 0, V.int 0, V.int 0, V.int 1, V.int 1, V.int 2, V.int 2]) hl1).trans hx2
  obtain ⟨tvs, ht0, htl⟩ := (hT.hx hx12).len
  refine ⟨_, rfl, t, _, rfl, .inl (SqL.of ht0), fun l3 hl3 => ⟨_, _, _, rfl, ?_⟩⟩
  have hx3 := hx12.new (o := .lst tvs) hl3
  have R3 := R.hx hx3
  have hT3 := hT.hx hx3
  have hc3 := hc.hx hx3
  have hsz3 := hsz.mono hx3.tups
  obtain ⟨tvs3, ht3, htl3⟩ := hT3.len
  have plen : (ps ++ [st]).length = ps.length + 1 := by rw [List.length_append]; rfl
  have hgst : Good rs cells zs.length st := R.good st (by simp)
  rcases hv with rfl | rfl | rfl
  · refine ⟨_, rfl, rfl, _, rfl, itT (by decide) ?_⟩
    refine ⟨_, rfl, _, rfl, _, rfl, cd, sz', t, 1, cells, rs, zs, ps, st, rfl, hc3, hsz3, hT3, O, hgst, by omega, by omega, fun t' H4 g4 hT4 => ?_⟩
    have hx4 := hx3.same g4
    have R4 := R3.same g4
    obtain ⟨tvs4, ht4, htl4⟩ := hT4.len
    refine ⟨_, rfl, t', _, rfl, .inl (SqL.of ht4), _, rfl, t, _, rfl, .inl (SqL.of (g4.at_ ht3)), _, _, rfl, rfl, _, rfl, ?_⟩
    have eg : goneP rs zs zs.length 1 (ps ++ [st]) st = if wordP zs.length st = .runs then ps ++ [st] ++ [behindP rs zs st] else ps ++ [st] := rfl
    by_cases cw : wordP zs.length st = .runs
    · rw [if_pos cw] at eg
      rw [eg] at hT4 htl4
      have l4 : tvs4.length = ps.length + 1 + 1 := by rw [htl4, List.length_append, plen]; rfl
      refine itT (decide_eq_true (by show (tvs3.length : Int) < (tvs4.length : Int); omega)) ?_
      refine ⟨_, rfl, _, rfl, _, rfl, r, pl, sc, bx, 0, .non, _, cells, rs, zs, ps, st, rfl, R4, O, by omega, .non, fun _ => ⟨fun _ H5 gE R5 => ?_, fun z => absurd cw z⟩, fun z => absurd z (by decide), fun z => absurd rfl z⟩
      refine ⟨_, rfl, _, rfl, rfl, _, rfl, itT (decide_eq_true rfl) ⟨_, rfl, _, _, _, _, _, rfl, .ty _, KTy.tyX (.non), kbn, _, rfl, _, _, _, _, _, rfl, .ty _, KTy.tyX (.non), kbn, rfl, _, rfl, itT (by decide) ⟨_, rfl, ?_⟩⟩⟩
      exact q t' (ps ++ [st]) (behindP rs zs st) H5 (F2.of hx4 gE (hx4.h1.extR R4 gE)) R5 (hT4.extL R4 gE) (by rw [plen]; omega)
    · rw [if_neg cw] at eg
      rw [eg] at hT4 htl4
      refine itF (decide_eq_false (by show ¬ (tvs3.length : Int) < (tvs4.length : Int); omega)) ?_
      refine ⟨_, rfl, _, rfl, _, rfl, r, pl, sc, bx, 0, .non, _, cells, rs, zs, ps, st, rfl, R4, O, by omega, .non, fun _ => ⟨fun z => absurd z cw, fun _ H5 g5 => ?_⟩, fun z => absurd z (by decide), fun z => absurd rfl z⟩
      refine ⟨_, rfl, _, rfl, rfl, _, rfl, itT (decide_eq_true rfl) ⟨_, rfl, _, _, _, _, _, rfl, .ty _, KTy.tyX ((.str _)), kbs, _, rfl, _, _, _, _, _, rfl, .ty _, KTy.tyX ((.str _)), kbs, rfl, _, rfl, itT (by decide) ⟨_, rfl, ?_⟩⟩⟩
      exact q t' ps st H5 (F2.hx (hx4.same g5)) (R4.same g5) (hT4.same g5) (by omega)
  · refine ⟨_, rfl, rfl, _, rfl, itF (by decide) ⟨_, rfl, rfl, _, rfl, itT (by decide) ?_⟩⟩
    refine ⟨_, rfl, t, _, rfl, .inl (SqL.of ht3), _, _, rfl, rfl, _, rfl, ?_⟩
    by_cases cp : ps = []
    · have l3' : tvs3.length = 1 := by rw [htl3, cp]; rfl
      refine itF (decide_eq_false (by show ¬ (1 : Int) < (tvs3.length : Int); omega)) ?_
      refine ⟨_, rfl, t, _, rfl, .inl (SqL.of ht3), _, _, rfl, rfl, _, rfl, itF (decide_eq_false (by show ¬ (1 : Int) < (tvs3.length : Int); omega)) ⟨_, rfl, ?_⟩⟩
      refine ⟨_, rfl, _, rfl, _, rfl, r, pl, sc, bx, 1, .non, _, cells, rs, zs, ps, st, rfl, R3, O, by omega, .non, fun z => absurd z (by decide), fun _ => ⟨fun z => absurd cp z, fun _ => ?_⟩, fun _ z => absurd rfl z⟩
      refine ⟨_, rfl, _, rfl, rfl, _, rfl, itT (decide_eq_true rfl) ⟨_, rfl, _, _, _, _, _, rfl, .ty _, KTy.tyX ((.str _)), kbs, _, rfl, _, _, _, _, _, rfl, .ty _, KTy.tyX ((.str _)), kbs, rfl, _, rfl, itT (by decide) ⟨_, rfl, ?_⟩⟩⟩
      exact q t ps st _ (F2.hx hx3) R3 hT3 (by omega)
    · have lp := List.length_pos_iff.mpr cp
      have l3' : tvs3.length = ps.length + 1 := by rw [htl3, plen]
      refine itT (decide_eq_true (by show (1 : Int) < (tvs3.length : Int); omega)) ?_
      obtain ⟨tv3, v3, ht3', hL3, hv3⟩ := hT3.last
      refine ⟨_, rfl, t, _, rfl, .inl (SqL.of ht3), _, _, rfl, rfl, _, rfl, itT (decide_eq_true (by show (1 : Int) < (tvs3.length : Int); omega)) ⟨_, rfl, _, rfl, _, rfl, t, _, rfl, SqL.of ht3', fun p4 hp4 => ?_⟩⟩
      rw [cut_init rfl]
      have hx4 := hx3.new (o := .lst tv3) hp4
      have g4 : Same (upd H2 l3 (.lst tvs)) (upd (upd H2 l3 (.lst tvs)) p4 (.lst tv3)) := Same.new hp4
      have R4 := R3.same g4
      obtain ⟨ps', st', eps⟩ : ∃ ps' st', ps = ps' ++ [st'] := ⟨_, _, (List.dropLast_concat_getLast cp).symm⟩
      have hT4 : TrlA rs (upd (upd H2 l3 (.lst tvs)) p4 (.lst tv3)) p4 (ps' ++ [st']) := ⟨tv3, upd_same, by rw [← eps]; exact hv3.mono fun _ _ r => r.mono (Same.tups g4)⟩
      refine ⟨_, rfl, _, rfl, _, rfl, r, pl, sc, bx, 1, .non, _, cells, rs, zs, ps, st, rfl, R4, O, by omega, .non, fun z => absurd z (by decide), fun _ => ⟨fun _ H5 gE R5 => ?_, fun z => absurd z cp⟩, fun _ z => absurd rfl z⟩
      refine ⟨_, rfl, _, rfl, rfl, _, rfl, itT (decide_eq_true rfl) ⟨_, rfl, _, _, _, _, _, rfl, .ty _, KTy.tyX (.non), kbn, _, rfl, _, _, _, _, _, rfl, .ty _, KTy.tyX (.non), kbn, rfl, _, rfl, itT (by decide) ⟨_, rfl, ?_⟩⟩⟩
      refine q p4 ps' st' H5 (F2.of hx4 gE (hx4.h1.extR R4 gE)) (by rw [← eps]; exact R5) (hT4.extL R4 gE) ?_
      rw [eps, List.length_append]
      omega
  · refine ⟨_, rfl, rfl, _, rfl, itF (by decide) ⟨_, rfl, rfl, _, rfl, itF (by decide) ?_⟩⟩
    refine ⟨_, rfl, _, rfl, (by show 1 ≤ sizeLine; decide), fun t4 ht4 => ⟨_, _, rfl, rfl, ⟨by decide, by decide, by decide⟩, ?_⟩⟩
    have hx4 := hx3.new (o := .tup [V.int 1]) ht4
    refine ⟨_, rfl, h, c, rfl, hx4.h1, fun dv dt H5 hx5 hk5 dk1 dk2 => ⟨(by show 14 ≤ sizeLine; decide), fun l6 hl6 => ?_⟩⟩
    have hx35 : Hx h c (upd H2 l3 (.lst tvs)) H5 := ((Hx.refl hx3.h1).new (o := .tup [V.int 1]) ht4).trans hx5
    have e45 : H5 t4 = some (.tup [V.int 1]) := hx5.t upd_same
    have hx36 := hx35.new (o := .lst [V.int 0, V.int 1, V.int 2, V.int 3, V.int 5, V.int 9, V.int (-1), V.int 5001, V.bl true, V.non, V.str "1", V.ref t4, V.int (10 ^ (19 : Int).toNat), dv]) hl6
    have kk : ∀ {v : V} {t : String}, KTy H5 v t → ∃ t', KTy (upd H5 l6 (.lst [V.int 0, V.int 1, V.int 2, V.int 3, V.int 5, V.int 9, V.int (-1), V.int 5001, V.bl true, V.non, V.str "1", V.ref t4, V.int (10 ^ (19 : Int).toNat), dv])) v t' := fun hk => let ⟨t', k, _⟩ := kty_hx ((Hx.refl hx5.h1).new hl6) hk; ⟨t', k⟩
    have inDv : inW 0 5000 dv = false := by
      cases hk5 <;> first | rfl | exact absurd rfl dk1
    refine ⟨h, c, l6, _, fun v => ((∃ n : Nat, v = .int (n : Int) ∧ n ≤ 9) ∨ inW 0 5000 v = false) ∧ ∃ t, KTy (upd H5 l6 (.lst [V.int 0, V.int 1, V.int 2, V.int 3, V.int 5, V.int 9, V.int (-1), V.int 5001, V.bl true, V.non, V.str "1", V.ref t4, V.int (10 ^ (19 : Int).toNat), dv])) v t, rfl, hx36.h1, upd_same, by simp, by show 14 ≤ 100; omega, ?_, ?_⟩
    · exact fa ⟨.inl ⟨0, rfl, by omega⟩, _, .int _⟩ (fa ⟨.inl ⟨1, rfl, by omega⟩, _, .int _⟩ (fa ⟨.inl ⟨2, rfl, by omega⟩, _, .int _⟩ (fa ⟨.inl ⟨3, rfl, by omega⟩, _, .int _⟩ (fa ⟨.inl ⟨5, rfl, by omega⟩, _, .int _⟩ (fa ⟨.inl ⟨9, rfl, by omega⟩, _, .int _⟩ (fa ⟨.inr (by decide), _, .int _⟩ (fa ⟨.inr (by decide), _, .int _⟩ (fa ⟨.inr rfl, _, .bl _⟩ (fa ⟨.inr rfl, _, .non⟩ (fa ⟨.inr rfl, _, .str _⟩ (fa ⟨.inr rfl, kk (.tup e45)⟩ (fa ⟨.inr (by decide), _, .int _⟩ (fa ⟨.inr inDv, kk hk5⟩ fn)))))))))))))
    rintro v H7 ⟨hvv, vt0, hvk0⟩ hx7
    obtain ⟨vt, hvk, _⟩ := kty_hx hx7 hvk0
    have hx37 := hx36.trans hx7
    have hxH7 := hx3.trans hx37
    have R7 := R3.hx hx37
    have hT7 := hT3.hx hx37
    obtain ⟨tvs7, ht7, htl7⟩ := hT7.len
    have hTl : TrlA rs H7 l3 (ps ++ [st]) := by
      obtain ⟨tv0, ht00, htv0⟩ := hT.hx hx12
      have e0 : tv0 = tvs := by rw [ht00] at ht0; exact HO.lst.inj (Option.some.inj ht0)
      subst e0
      exact ⟨tv0, hx37.l upd_same, (htv0.mono fun _ _ r => r.mono (Tups.trans (Same.tups (Same.new hl3)) hx37.tups))⟩
    refine ⟨_, rfl, _, _, _, _, _, rfl, .ty _, hvk.tyX, hvk.kint, _, rfl, ?_⟩
    by_cases cn : ∃ n : Nat, v = .int (n : Int) ∧ n ≤ 9
    · obtain ⟨n, rfl, hn9⟩ := cn
      have eint : vt = "int" := by cases hvk; rfl
      subst eint
      refine itT rfl ⟨_, rfl, _, _, _, _, _, rfl, .ty _, hvk.tyX, hvk.kbool, _, rfl, itT (by decide) ⟨_, rfl, _, _, rfl, rfl, _, rfl, itT (decide_eq_true (by omega)) ⟨_, _, rfl, rfl, _, rfl, itT (decide_eq_true (by omega)) ?_⟩⟩⟩
      refine ⟨_, rfl, _, rfl, _, rfl, _, rfl, cd, sz', t, n, cells, rs, zs, ps, st, rfl, hc3.hx hx37, hsz3.mono hx37.tups, hT7, O, hgst, hn9, by omega, fun t' H8 g8 hT8 => ?_⟩
      obtain ⟨tvs8, ht8, htl8⟩ := hT8.len
      refine ⟨_, rfl, t', _, rfl, .inl (SqL.of ht8), _, rfl, t, _, rfl, .inl (SqL.of (g8.at_ ht7)), _, _, rfl, rfl, ?_⟩
      have hx8 := hxH7.same g8
      have R8 := R7.same g8
      refine ⟨_, rfl, _, rfl, _, rfl, r, pl, sc, bx, 2, .int (n : Int), _, cells, rs, zs, ps, st, rfl, R8, O, by omega, .int _, fun z => absurd z (by decide), fun z => absurd z (by decide), fun _ _ => ⟨fun z => ?_, fun _ => ⟨n, rfl, hn9, fun H9 gE R9 => ?_⟩⟩⟩
      · have : inW 0 5000 (.int (n : Int)) = true := decide_eq_true (by omega)
        rw [this] at z; cases z
      obtain ⟨ps', st', egl, hgl⟩ := goneP_last (rs := rs) (zs := zs) (m := zs.length) n ps st
      rw [egl] at R9 hT8 htl8 ⊢
      rw [htl7] at *
      have e9 : V.int (((ps' ++ [st']).length : Int) - ((ps ++ [st]).length : Int)) = V.int ((tvs8.length : Int) - ((ps ++ [st]).length : Int)) := by rw [htl8]
      refine ⟨_, rfl, _, rfl, rfl, _, rfl, itT (decide_eq_true e9) ⟨_, rfl, _, _, _, _, _, rfl, .ty _, KTy.tyX ((.int _)), kbi, _, rfl, _, _, _, _, _, rfl, .ty _, KTy.tyX ((.int _)), kbi, rfl, _, rfl, itT (by decide) ⟨_, rfl, ?_⟩⟩⟩
      exact q t' ps' st' H9 (F2.of hx8 gE (hx8.h1.extR R8 gE)) R9 (hT8.extL R8 gE) (by omega)
    · have hin : inW 0 5000 v = false := by
        rcases hvv with z | z
        · exact absurd z cn
        · exact z
      cases hvk with
      | non =>
        refine itF rfl ?_
        refine ⟨_, rfl, _, rfl, _, rfl, r, pl, sc, bx, 2, _, _, cells, rs, zs, ps, st, rfl, R7, O, by omega, .non, fun z => absurd z (by decide), fun z => absurd z (by decide), fun _ _ => ⟨fun _ => ?_, fun z => by rw [hin] at z; cases z⟩⟩
        refine ⟨_, rfl, _, rfl, rfl, _, rfl, itT (decide_eq_true rfl) ⟨_, rfl, _, _, _, _, _, rfl, .ty _, KTy.tyX ((.str _)), kbs, _, rfl, _, _, _, _, _, rfl, .ty _, KTy.tyX ((.str _)), kbs, rfl, _, rfl, itT (by decide) ⟨_, rfl, ?_⟩⟩⟩
        exact q l3 ps st H7 (F2.hx hxH7) R7 hTl (by omega)
      | bl b =>
        refine itT rfl ⟨_, rfl, _, _, _, _, _, rfl, .ty _, (KTy.bl b : KTy H7 _ _).tyX, (KTy.bl b : KTy H7 _ _).kbool, _, rfl, itF (by decide) ?_⟩
        refine ⟨_, rfl, _, rfl, _, rfl, r, pl, sc, bx, 2, _, _, cells, rs, zs, ps, st, rfl, R7, O, by omega, (.bl b), fun z => absurd z (by decide), fun z => absurd z (by decide), fun _ _ => ⟨fun _ => ?_, fun z => by rw [hin] at z; cases z⟩⟩
        refine ⟨_, rfl, _, rfl, rfl, _, rfl, itT (decide_eq_true rfl) ⟨_, rfl, _, _, _, _, _, rfl, .ty _, KTy.tyX ((.str _)), kbs, _, rfl, _, _, _, _, _, rfl, .ty _, KTy.tyX ((.str _)), kbs, rfl, _, rfl, itT (by decide) ⟨_, rfl, ?_⟩⟩⟩
        exact q l3 ps st H7 (F2.hx hxH7) R7 hTl (by omega)
      | int i =>
        have hi : ¬ (0 ≤ i ∧ i ≤ 9) := fun z => cn ⟨i.toNat, by congr 1; omega, by omega⟩
        refine itT rfl ⟨_, rfl, _, _, _, _, _, rfl, .ty _, (KTy.int i : KTy H7 _ _).tyX, (KTy.int i : KTy H7 _ _).kbool, _, rfl, itT (by decide) ⟨_, rfl, _, _, rfl, rfl, _, rfl, ?_⟩⟩
        by_cases c0 : 0 ≤ i
        · refine itT (decide_eq_true c0) ⟨_, _, rfl, rfl, _, rfl, itF (decide_eq_false fun z => hi ⟨c0, z⟩) ?_⟩
          refine ⟨_, rfl, _, rfl, _, rfl, r, pl, sc, bx, 2, _, _, cells, rs, zs, ps, st, rfl, R7, O, by omega, (.int i), fun z => absurd z (by decide), fun z => absurd z (by decide), fun _ _ => ⟨fun _ => ?_, fun z => by rw [hin] at z; cases z⟩⟩
          refine ⟨_, rfl, _, rfl, rfl, _, rfl, itT (decide_eq_true rfl) ⟨_, rfl, _, _, _, _, _, rfl, .ty _, KTy.tyX ((.str _)), kbs, _, rfl, _, _, _, _, _, rfl, .ty _, KTy.tyX ((.str _)), kbs, rfl, _, rfl, itT (by decide) ⟨_, rfl, ?_⟩⟩⟩
          exact q l3 ps st H7 (F2.hx hxH7) R7 hTl (by omega)
        · refine itF (decide_eq_false c0) ⟨_, rfl, itF rfl ?_⟩
          refine ⟨_, rfl, _, rfl, _, rfl, r, pl, sc, bx, 2, _, _, cells, rs, zs, ps, st, rfl, R7, O, by omega, (.int i), fun z => absurd z (by decide), fun z => absurd z (by decide), fun _ _ => ⟨fun _ => ?_, fun z => by rw [hin] at z; cases z⟩⟩
          refine ⟨_, rfl, _, rfl, rfl, _, rfl, itT (decide_eq_true rfl) ⟨_, rfl, _, _, _, _, _, rfl, .ty _, KTy.tyX ((.str _)), kbs, _, rfl, _, _, _, _, _, rfl, .ty _, KTy.tyX ((.str _)), kbs, rfl, _, rfl, itT (by decide) ⟨_, rfl, ?_⟩⟩⟩
          exact q l3 ps st H7 (F2.hx hxH7) R7 hTl (by omega)
      | str x =>
        refine itF rfl ?_
        refine ⟨_, rfl, _, rfl, _, rfl, r, pl, sc, bx, 2, _, _, cells, rs, zs, ps, st, rfl, R7, O, by omega, (.str x), fun z => absurd z (by decide), fun z => absurd z (by decide), fun _ _ => ⟨fun _ => ?_, fun z => by rw [hin] at z; cases z⟩⟩
        refine ⟨_, rfl, _, rfl, rfl, _, rfl, itT (decide_eq_true rfl) ⟨_, rfl, _, _, _, _, _, rfl, .ty _, KTy.tyX ((.str _)), kbs, _, rfl, _, _, _, _, _, rfl, .ty _, KTy.tyX ((.str _)), kbs, rfl, _, rfl, itT (by decide) ⟨_, rfl, ?_⟩⟩⟩
        exact q l3 ps st H7 (F2.hx hxH7) R7 hTl (by omega)
      | lst e =>
        refine itF rfl ?_
        refine ⟨_, rfl, _, rfl, _, rfl, r, pl, sc, bx, 2, _, _, cells, rs, zs, ps, st, rfl, R7, O, by omega, (.lst e), fun z => absurd z (by decide), fun z => absurd z (by decide), fun _ _ => ⟨fun _ => ?_, fun z => by rw [hin] at z; cases z⟩⟩
        refine ⟨_, rfl, _, rfl, rfl, _, rfl, itT (decide_eq_true rfl) ⟨_, rfl, _, _, _, _, _, rfl, .ty _, KTy.tyX ((.str _)), kbs, _, rfl, _, _, _, _, _, rfl, .ty _, KTy.tyX ((.str _)), kbs, rfl, _, rfl, itT (by decide) ⟨_, rfl, ?_⟩⟩⟩
        exact q l3 ps st H7 (F2.hx hxH7) R7 hTl (by omega)
      | tup e =>
        refine itF rfl ?_
        refine ⟨_, rfl, _, rfl, _, rfl, r, pl, sc, bx, 2, _, _, cells, rs, zs, ps, st, rfl, R7, O, by omega, (.tup e), fun z => absurd z (by decide), fun z => absurd z (by decide), fun _ _ => ⟨fun _ => ?_, fun z => by rw [hin] at z; cases z⟩⟩
        refine ⟨_, rfl, _, rfl, rfl, _, rfl, itT (decide_eq_true rfl) ⟨_, rfl, _, _, _, _, _, rfl, .ty _, KTy.tyX ((.str _)), kbs, _, rfl, _, _, _, _, _, rfl, .ty _, KTy.tyX ((.str _)), kbs, rfl, _, rfl, itT (by decide) ⟨_, rfl, ?_⟩⟩⟩
        exact q l3 ps st H7 (F2.hx hxH7) R7 hTl (by omega)
      | dK e =>
        refine itF rfl ?_
        refine ⟨_, rfl, _, rfl, _, rfl, r, pl, sc, bx, 2, _, _, cells, rs, zs, ps, st, rfl, R7, O, by omega, (.dK e), fun z => absurd z (by decide), fun z => absurd z (by decide), fun _ _ => ⟨fun _ => ?_, fun z => by rw [hin] at z; cases z⟩⟩
        refine ⟨_, rfl, _, rfl, rfl, _, rfl, itT (decide_eq_true rfl) ⟨_, rfl, _, _, _, _, _, rfl, .ty _, KTy.tyX ((.str _)), kbs, _, rfl, _, _, _, _, _, rfl, .ty _, KTy.tyX ((.str _)), kbs, rfl, _, rfl, itT (by decide) ⟨_, rfl, ?_⟩⟩⟩
        exact q l3 ps st H7 (F2.hx hxH7) R7 hTl (by omega)
end
end K34

set_option Elab.async false
set_option linter.all false
set_option maxRecDepth 100000
set_option maxHeartbeats 4000000
/-! D21: the law. -/
namespace K34
open PySem PySem.Spec PyProof.Rows L2
open He (ga ma)
def forB : Stmt → List Stmt
  | .For _ _ b _ _ => b
  | _ => []
def lawB : List Stmt := forB ((defBody s_law).getD 1 (.Pass ⟨0, 0, 0, 0⟩))
def restB : List Stmt := lawB.drop 4
def innerB : List Stmt := forB (restB.getD 8 (.Pass ⟨0, 0, 0, 0⟩))
def tailB : List Stmt := innerB.drop 2
/-- a scene being led: the runner, the law's trail -/
def LawSt (K : PySem.W.Frag) (h c : Addr) (lim : Nat) (σ : L2.St) (H : Hp) : Prop := ∃ (a : V) (cells : Nat) (rs : List (List Stm)) (zs : List (Int × Int)) (ps : List PSt) (st : PSt) (r pl sc bx cd sz t : Addr) (x2 x5 x7 x8 x9 x10 x13 x14 x15 x16 : Option V),
  σ = [some a, some (.ref h), x2, some (.int (cells : Int)), some (.ref sz), x5, some (.ref cd), x7, x8, x9, x10, some (.ref r), some (.ref t), x13, x14, x15, x16] ∧ Hand c H h ∧ RunA K H r pl sc bx cells rs zs (ps ++ [st]) ∧ CdsA H cd rs ∧ SizA H sz zs ∧ TrlA rs H t (ps ++ [st]) ∧ Sc cells rs zs.length ∧ ps.length ≤ lim
theorem LawSt.mono {K : PySem.W.Frag} {h c : Addr} {l m : Nat} {σ : L2.St} {H : Hp} (x : LawSt K h c l σ H) (k : l ≤ m) : LawSt K h c m σ H := by
  obtain ⟨a, cells, rs, zs, ps, st, r, pl, sc, bx, cd, sz, t, x2, x5, x7, x8, x9, x10, x13, x14, x15, x16, e, y1, y2, y3, y4, y5, y6, y7⟩ := x
  exact ⟨a, cells, rs, zs, ps, st, r, pl, sc, bx, cd, sz, t, x2, x5, x7, x8, x9, x10, x13, x14, x15, x16, e, y1, y2, y3, y4, y5, y6, Nat.le_trans y7 k⟩
section
variable {K : PySem.W.Frag} {H H1 H' : Hp} {h c r pl sc bx cd sz t : Addr} {cells : Nat} {rs : List (List Stm)} {zs : List (Int × Int)} {ps : List PSt} {st : PSt}
theorem F2.tups (f : F2 h pl c H H') (hh : Hand c H h) (R : RunA K H r pl sc bx cells rs zs ps) : Tups H H' := fun b xs e => by
  obtain ⟨kvs, k⟩ := hh.dk
  obtain ⟨vs, e1, _⟩ := R.pl
  exact f.e _ _ e (ne_of e k (by intro z; cases z)) (ne_of e e1 (by intro z; cases z))
theorem lst_last {α : Type} {vs ws : List α} {v w : α} (e : vs ++ [v] = ws ++ [w]) : v = w := by
  have := congrArg List.getLast? e
  rw [List.getLast?_concat, List.getLast?_concat] at this
  exact Option.some.inj this
theorem all2_last {α β : Type} {R : α → β → Prop} {xs : List α} {ys : List β} (h : All2 R xs ys) (n : ys ≠ []) : ∃ xs' x y, xs = xs' ++ [x] ∧ R x y ∧ y ∈ ys := by
  induction h with
  | nil => exact absurd rfl n
  | @cons x y xs ys a b ih =>
    cases b with
    | nil => exact ⟨[], x, y, rfl, a, List.mem_cons_self⟩
    | cons a2 b2 =>
      obtain ⟨xs', x', y', e, r, m⟩ := ih (by simp)
      exact ⟨x :: xs', x', y', by rw [e]; rfl, r, List.mem_cons_of_mem _ m⟩
theorem CdsA.f2 (C : CdsA H cd rs) (f : F2 h pl c H H') (hh : Hand c H h) (R : RunA K H r pl sc bx cells rs zs (ps ++ [st])) (n1 : 1 ≤ rs.length) : CdsA H' cd rs := by
  obtain ⟨kvs, k⟩ := hh.dk
  obtain ⟨vs, v, e1, ⟨a, dx, po, vh, vp, rfl, ea, _⟩, _⟩ := R.last
  have kt := f.tups hh R
  obtain ⟨cs, e, x⟩ := C
  have nr : rs ≠ [] := by intro z; rw [z] at n1; cases n1
  have ncd : cd ≠ pl := by
    intro z
    subst z
    obtain ⟨xs', x', y', ex, ⟨p, rfl, ⟨vs', e2, _⟩⟩, _⟩ := all2_last x nr
    rw [e1] at e
    have e3 := HO.lst.inj (Option.some.inj e)
    rw [ex] at e3
    have e4 := V.ref.inj (lst_last e3)
    rw [e4, e2] at ea
    cases ea
  refine ⟨cs, f.e _ _ e (ne_of e k (by intro z; cases z)) ncd, x.mono fun v b ⟨p, ep, ⟨vs', e2, x2⟩⟩ => ⟨p, ep, vs', f.e _ _ e2 (ne_of e2 k (by intro z; cases z)) ?_, ItmA.ms x2 kt⟩⟩
  intro z
  subst z
  obtain ⟨xs', x', y', ex, hx, _⟩ := all2_last x2 (by unfold codeB; simp)
  obtain ⟨ia, ixs, rfl, hia⟩ := hx.head
  rw [e1] at e2
  have e3 := HO.lst.inj (Option.some.inj e2)
  rw [ex] at e3
  have e4 := V.ref.inj (lst_last e3)
  rw [e4, hia] at ea
  cases ea
theorem Cont.hx {n : Int} {v : V} {b : Bool} (C : Cont H n v b) (x : Hx h c H H') : Cont H' n v b := by
  rcases C with ⟨a, xs, rfl, e, hk, hl, hb⟩ | ⟨t, hk, hn, hb⟩
  · exact .inl ⟨a, xs, rfl, x.t e, fun y m => let ⟨t, k⟩ := hk y m; let ⟨t', k', _⟩ := kty_hx x k; ⟨t', k'⟩, hl, hb⟩
  · obtain ⟨t', k', e⟩ := kty_hx x hk
    exact .inr ⟨t', k', by rw [e]; exact hn, hb⟩
end
def spLaw (K : PySem.W.Frag) : Sp := fun vs H Q _ => ∃ (a : Addr) (ns : List Int), vs = [.ref a] ∧ SqL K H a (ns.map V.int) ∧ ∀ H', Q (.bl true) H'
section
variable {P : Program} {w : World} {K : PySem.W.Frag} {mg : Str → Option Value} {base : Heap}
abbrev LX (P : Program) (w : World) (K : PySem.W.Frag) (mg : Str → Option Value) (base : Heap) (f : Addr) (cdv : Value) (A : Around) (outer : List Env) (s : Shared) (H : Hp) (E : XK) : Cx := (cxOf CX0 P w K mg base N_law "law" (defScope s_law) f cdv A outer s H E).nox
theorem law_tail (T : Facts w K mg) {f : Addr} {cdv : Value} {A : Around} {outer : List Env} {s : Shared} {H : Hp} {E : XK} (hr : Room 20 (A.deeper (envOfC "law" (defScope s_law) s.heap.objs.size f cdv))) :
    ∃ tT : TS, PSs (LX P w K mg base f cdv A outer s H E) tailB tT ∧ ∀ (D : Ends) (σ : L2.St) (H' : Hp) (h c : Addr), LawSt K h c 300 σ H' → (∀ σ2 H2, LawSt K h c 400 σ2 H2 → D.nx σ2 H2) → tT D σ H' := by
  have G__law_deed := ok_ldeed (P := P) (base := base) T
  have G__law_is_right := ok_lright (P := P) (base := base) T
  refine ⟨_, (pss_cons (ps_set (i := 12) sc_law.nd rfl (Or.inl rfl) (pe_cal G__law_deed (hr.mono (by first | decide | omega)) (pa_cons (pv 1) (pa_cons (pv 11) (pa_cons (pv 6) (pa_cons (pv 4) (pa_cons (pv 12) pa_nil)))))))
      (pss_one (ps_if (PW.pt (pw_or (pt_cmpR op_isN (pv 12) pe_non (nomark _)) (pw_or1 (pt_not (pt_val (pe_cal G__law_is_right (hr.mono (by first | decide | omega)) (pa_cons (pv 11) (pa_cons (pv 6) (pa_cons (pv 4) (pa_cons (pv 12) pa_nil)))))))))) (pss_one (ps_ret pe_bl)) pss_nil))), ?_⟩
  rintro D σ H' h c ⟨a, cells, rs, zs, ps, st, r, pl, sc, bx, cd, sz', t, x2, x5, x7, x8, x9, x10, x13, x14, x15, x16, rfl, hh, R, hc, hsz, hT, O, hl⟩ q
  refine ⟨_, rfl, _, rfl, _, rfl, _, rfl, _, rfl, h, c, r, pl, sc, bx, cd, sz', t, cells, rs, zs, ps, st, rfl, hh, R, hc, hsz, hT, O, by omega, fun t' ps' st' H1 f1 R1 hT1 hl1 => ?_⟩
  have hc1 := hc.f2 f1 hh R O.R.n1
  have hsz1 := hsz.mono (f1.tups hh R)
  refine ⟨_, rfl, rfl, _, rfl, itF (decide_eq_false (by intro z; cases z)) ⟨_, rfl, _, rfl, _, rfl, _, rfl, r, pl, sc, bx, cd, sz', t', cells, rs, zs, ps', st', rfl, R1, hc1, hsz1, hT1, O, fun H2 g2 => ⟨_, rfl, itF rfl ?_⟩⟩⟩
  exact q _ _ ⟨a, cells, rs, zs, ps', st', r, pl, sc, bx, cd, sz', t', x2, x5, x7, x8, x9, x10, x13, x14, x15, x16, rfl, f1.h1.same g2, R1.same g2, hc1.same g2, hsz1.mono (Same.tups g2), hT1.same g2, O, by omega⟩
theorem law_inner (T : Facts w K mg) {f : Addr} {cdv : Value} {A : Around} {outer : List Env} {s : Shared} {H : Hp} {E : XK} (hr : Room 20 (A.deeper (envOfC "law" (defScope s_law) s.heap.objs.size f cdv))) :
    ∃ tI : TS, PSs (LX P w K mg base f cdv A outer s H E) innerB tI ∧ ∀ (D : Ends) (σ : L2.St) (H' : Hp) (h c : Addr), LawSt K h c 1000 σ H' → (∀ σ2 H2, LawSt K h c 1000 σ2 H2 → D.nx σ2 H2) → (∀ σ2 H2, LawSt K h c 1000 σ2 H2 → D.bk σ2 H2) → tI D σ H' := by
  have G__law_deed := ok_ldeed (P := P) (base := base) T
  have G__law_is_right := ok_lright (P := P) (base := base) T
  have G__law_draw := ok_draw (P := P) (base := base) T
  have G_SceneRunner_copy := ok_Runner_copy (P := P) (base := base) T
  obtain ⟨tT, pTAIL, qT⟩ := law_tail (P := P) (base := base) (f := f) (cdv := cdv) (A := A) (outer := outer) (s := s) (H := H) (E := E) T hr
  refine ⟨_, (pss_cons (ps_if (pt_cmpR op_gt (pe_callB call_len_seq (by rfl) T.b_len PySem.boot_len (pa_cons (pv 12) pa_nil)) pe_int (nomark _)) (pss_one ps_break) pss_nil) (pss_cons (ps_if (pt_cmpR op_eq (pe_cal G__law_draw (hr.mono (by first | decide | omega)) (pa_cons (pv 1) (pa_cons pe_int pa_nil))) pe_int (nomark _)) (pss_cons (ps_set (i := 14) sc_law.nd rfl (Or.inl rfl) (pe_mcal0 G_SceneRunner_copy T.cl_SceneRunner (hr.mono (by first | decide | omega)) (pv 11)))
      (pss_cons (ps_set (i := 15) sc_law.nd rfl (Or.inl rfl) (pe_cal G__law_deed (hr.mono (by first | decide | omega)) (pa_cons (pv 1) (pa_cons (pv 14) (pa_cons (pv 6) (pa_cons (pv 4) (pa_cons (pv 12) pa_nil)))))))
      (pss_cons (ps_if (PW.pt (pw_or (pt_cmpR op_isN (pv 15) pe_non (nomark _)) (pw_or1 (pt_not (pt_val (pe_cal G__law_is_right (hr.mono (by first | decide | omega)) (pa_cons (pv 14) (pa_cons (pv 6) (pa_cons (pv 4) (pa_cons (pv 15) pa_nil)))))))))) (pss_one (ps_ret pe_bl)) pss_nil)
      (pss_cons (ps_if (pt_not (pt_val (pe_cal G__law_is_right (hr.mono (by first | decide | omega)) (pa_cons (pv 11) (pa_cons (pv 6) (pa_cons (pv 4) (pa_cons (pv 12) pa_nil))))))) (pss_one (ps_ret pe_bl)) pss_nil)
      (pss_one (ps_if (pt_cmpR op_eq (pe_cal G__law_draw (hr.mono (by first | decide | omega)) (pa_cons (pv 1) (pa_cons pe_int pa_nil))) pe_int (nomark _)) (pss_one (ps_par (i := 11) (j := 12) rfl sc_law.nd rfl rfl (by decide) rfl rfl (pa_cons (pv 14) (pa_cons (pv 15) pa_nil)) (by rfl))) pss_nil)))))) pss_nil) pTAIL)), ?_⟩
  rintro D σ H' h c X q qb
  have X0 := X
  obtain ⟨a, cells, rs, zs, ps, st, r, pl, sc, bx, cd, sz', t, x2, x5, x7, x8, x9, x10, x13, x14, x15, x16, rfl, hh, R, hc, hsz, hT, O, hl⟩ := X
  obtain ⟨tvs, ht, htl⟩ := hT.len
  rw [List.length_append, List.length_singleton] at htl
  refine ⟨_, rfl, t, _, rfl, .inl (SqL.of ht), _, _, rfl, rfl, _, rfl, ite2 (fun cl => ?_) (fun cl => ?_)⟩
  · exact qb _ _ X0
  have cl : ¬ (200 : Int) < (tvs.length : Int) := of_decide_eq_false (Bool.eq_false_iff.mpr cl)
  have hl2 : ps.length ≤ 200 := by omega
  refine ⟨_, rfl, h, c, 8, rfl, hh, by omega, by omega, fun k H1 k0 k1 hx1 => ⟨rfl, _, rfl, ?_⟩⟩
  have hc1 := hc.hx hx1
  have hsz1 := hsz.mono hx1.tups
  have hT1 := hT.hx hx1
  have R1 := R.hx hx1
  have fin : ∀ σ2 H2, LawSt K h c 400 σ2 H2 → D.nx σ2 H2 := fun σ2 H2 y => q _ _ (y.mono (by omega))
  refine ite2 (fun ck => ?_) (fun ck => ?_)
  · obtain ⟨dx, hr1⟩ := R1.ob
    refine ⟨_, rfl, r, dx, _, rfl, hr1, fRun_no (by decide +kernel) (by decide +kernel) (by decide +kernel), r, pl, sc, bx, cells, rs, zs, ps ++ [st], rfl, R1, O, fun r2 pl2 H2 g2 n2 R2 => ?_⟩
    have hh2 := hx1.h1.same g2
    refine ⟨_, rfl, _, rfl, _, rfl, _, rfl, _, rfl, h, c, r2, pl2, sc, bx, cd, sz', t, cells, rs, zs, ps, st, rfl, hh2, R2, hc1.same g2, hsz1.mono (Same.tups g2), hT1.same g2, O, by omega, fun t3 ps3 st3 H3 f3 R3 hT3 hl3 => ?_⟩
    have hx3 : Hx h c H1 H3 := ⟨fun b o e n => f3.e _ _ (g2.at_ e) n (ne_of_none e n2), hx1.h1, f3.h1⟩
    have hc3 := hc1.hx hx3
    have hsz3 := hsz1.mono hx3.tups
    have hTo := hT1.hx hx3
    have Ro := R1.hx hx3
    refine ⟨_, rfl, rfl, _, rfl, itF (decide_eq_false (by intro z; cases z)) ⟨_, rfl, _, rfl, _, rfl, _, rfl, r2, pl2, sc, bx, cd, sz', t3, cells, rs, zs, ps3, st3, rfl, R3, hc3, hsz3, hT3, O, fun H4 g4 => ⟨_, rfl, itF rfl ?_⟩⟩⟩
    refine ⟨_, rfl, _, rfl, _, rfl, _, rfl, r, pl, sc, bx, cd, sz', t, cells, rs, zs, ps, st, rfl, Ro.same g4, hc3.same g4, hsz3.mono (Same.tups g4), hTo.same g4, O, fun H5 g5 => ⟨_, rfl, itF rfl ?_⟩⟩
    have g45 := g4.trans g5
    have hh5 := f3.h1.same g45
    refine ⟨_, rfl, h, c, 2, rfl, hh5, by omega, by omega, fun k2 H6 k20 k21 hx6 => ⟨rfl, _, rfl, ?_⟩⟩
    have hc6 := (hc3.same g45).hx hx6
    have hsz6 := (hsz3.mono (Same.tups g45)).mono hx6.tups
    refine ite2 (fun ck2 => ?_) (fun ck2 => ?_)
    · refine ⟨_, rfl, _, rfl, _, _, rfl, qT _ _ _ h c ⟨a, cells, rs, zs, ps3, st3, r2, pl2, sc, bx, cd, sz', t3, x2, x5, x7, x8, x9, x10, x13, _, _, x16, rfl, hx6.h1, (R3.same g45).hx hx6, hc6, hsz6, (hT3.same g45).hx hx6, O, by omega⟩ fin⟩
    · exact qT _ _ _ h c ⟨a, cells, rs, zs, ps, st, r, pl, sc, bx, cd, sz', t, x2, x5, x7, x8, x9, x10, x13, _, _, x16, rfl, hx6.h1, (Ro.same g45).hx hx6, hc6, hsz6, (hTo.same g45).hx hx6, O, by omega⟩ fin
  · exact qT _ _ _ h c ⟨a, cells, rs, zs, ps, st, r, pl, sc, bx, cd, sz', t, x2, x5, x7, x8, x9, x10, x13, x14, x15, x16, rfl, hx1.h1, R1, hc1, hsz1, hT1, O, by omega⟩ fin
end
end K34

set_option Elab.async false
set_option linter.all false
set_option maxRecDepth 100000
set_option maxHeartbeats 4000000
/-! D22: the law, whole. -/
namespace K34
open PySem PySem.Spec PyProof.Rows L2
open He (ga ma)
/-- between the scenes -/
def TurnSt (h c : Addr) (σ : L2.St) (H : Hp) : Prop := ∃ (a : V) (x2 x3 x4 x5 x6 x7 x8 x9 x10 x11 x12 x13 x14 x15 x16 : Option V), σ = [some a, some (.ref h), x2, x3, x4, x5, x6, x7, x8, x9, x10, x11, x12, x13, x14, x15, x16] ∧ Hand c H h
theorem LawSt.turn {K : PySem.W.Frag} {h c : Addr} {l : Nat} {σ : L2.St} {H : Hp} (x : LawSt K h c l σ H) : TurnSt h c σ H := by
  obtain ⟨a, cells, rs, zs, ps, st, r, pl, sc, bx, cd, sz, t, x2, x5, x7, x8, x9, x10, x13, x14, x15, x16, e, y1, _⟩ := x
  exact ⟨a, _, _, _, _, _, _, _, _, _, _, _, _, _, _, _, e, y1⟩
/-- a scene and its boxes are drawn -/
def RestSt (h c : Addr) (σ : L2.St) (H : Hp) : Prop := ∃ (a : V) (cells : Nat) (sz rp : Addr) (rs : List (List Stm)) (zs : List (Int × Int)) (x2 x6 x7 x8 x9 x10 x11 x12 x13 x14 x15 x16 : Option V),
  σ = [some a, some (.ref h), x2, some (.int (cells : Int)), some (.ref sz), some (.ref rp), x6, x7, x8, x9, x10, x11, x12, x13, x14, x15, x16] ∧ Hand c H h ∧ RtsA H rp rs ∧ Sc cells rs zs.length ∧ SizA H sz zs ∧ (∀ z ∈ zs, 1 ≤ z.1 ∧ z.1 ≤ 1000 ∧ 1 ≤ z.2 ∧ z.2 ≤ 1000)
theorem all_isI {l : List Int} : (l.map V.int).all isI = true := by
  rw [List.all_map, List.all_eq_true]
  intro x _
  rfl
theorem ints_kty {H : Hp} {l : List Int} : ∀ x ∈ l.map V.int, ∃ T, KTy H x T := fun x m => by
  obtain ⟨z, _, rfl⟩ := List.mem_map.mp m
  exact ⟨_, .int z⟩
section
variable {P : Program} {w : World} {K : PySem.W.Frag} {mg : Str → Option Value} {base : Heap}
theorem law_rest (T : Facts w K mg) {f : Addr} {cdv : Value} {A : Around} {outer : List Env} {s : Shared} {H : Hp} {E : XK} (hr : Room 20 (A.deeper (envOfC "law" (defScope s_law) s.heap.objs.size f cdv))) :
    ∃ tR : TS, PSs (LX P w K mg base f cdv A outer s H E) restB tR ∧ ∀ (D : Ends) (σ : L2.St) (H' : Hp) (h c : Addr), RestSt h c σ H' → (∀ σ2 H2, TurnSt h c σ2 H2 → D.nx σ2 H2) → tR D σ H' := by
  have G__law_codes := ok_lcodes (P := P) (base := base) T
  have G__law_any := ok_any (P := P) (base := base) T
  have G__law_draw := ok_draw (P := P) (base := base) T
  have C_Scene : OkC P w K mg base CX0 17 "Scene" (ga K "Scene") ["self", "cells", "routines"] (spScene K) := (ok_Scene_init T).cls T.mk_Scene T.g_Scene
  have C_Boxes : OkC P w K mg base CX0 4 "Boxes" (ga K "Boxes") ["self", "sizes"] (spBoxes K) := (ok_Boxes_init T).cls T.mk_Boxes T.g_Boxes
  have G__law_is_refused := ok_lrefused (P := P) (base := base) T
  have C_SceneRunner := ok_Runner (P := P) (base := base) T
  have G__law_begun := ok_lbegun (P := P) (base := base) T
  have G__law_is_right := ok_lright (P := P) (base := base) T
  obtain ⟨tI, pINNER, qI⟩ := law_inner (P := P) (base := base) (f := f) (cdv := cdv) (A := A) (outer := outer) (s := s) (H := H) (E := E) T hr
  refine ⟨_, (pss_cons (ps_set (i := 6) sc_law.nd rfl (Or.inl rfl) (pe_cal G__law_codes (hr.mono (by first | decide | omega)) (pa_cons (pv 5) pa_nil)))
      (pss_cons (ps_set (i := 7) sc_law.nd rfl (Or.inl rfl) (pe_callTy call_tuple_of (by rfl) T.b_tuple bv_tuple (pa_cons (pe_lc (own := [("_law_k", 16)]) (g := (gName 16)) (tt := tYes) rfl sc_law.nd (pi_range1 (by rfl) T.b_range (pa_cons (pv 3) pa_nil)) (blkOk_by (N := N_law) (sc := defScope s_law) (by decide +kernel)) (fun _ _ _ _ _ => (pg_name (i := 16) sc_law.nd rfl (Or.inl rfl))) (fun _ _ _ _ _ => pts_nil) (fun _ _ _ _ _ => (pe_cal G__law_any (hr.mono (by first | decide | omega)) (pa_cons (pv 1) (pa_cons (pe_lst (pa_cons pe_int (pa_cons pe_int (pa_cons pe_int (pa_cons (pe_cal G__law_draw (hr.mono (by first | decide | omega)) (pa_cons (pv 1) (pa_cons pe_int pa_nil))) (pa_cons (pe_un un_neg pe_int) (pa_cons (pe_op op_sub (pe_op op_pow pe_int pe_int) pe_int) pa_nil))))))) pa_nil))))) pa_nil)))
      (pss_cons (ps_par (i := 8) (j := 9) rfl sc_law.nd rfl rfl (by decide) rfl rfl (pa_cons (pe_mk C_Scene (hr.mono (by first | decide | omega)) (pa_cons (pv 3) (pa_cons (pv 5) pa_nil))) (pa_cons (pe_mk C_Boxes (hr.mono (by first | decide | omega)) (pa_cons (pv 4) pa_nil)) pa_nil)) (by rfl))
      (pss_cons (ps_set (i := 10) sc_law.nd rfl (Or.inl rfl) (pe_lst (pa_cons (pe_slice sl_tupU (pv 7) (po_some pe_int) po_none) (pa_cons (pe_op op_catU (pv 7) (pe_tup (pa_cons pe_int pa_nil))) (pa_cons (pe_callTy call_list_of (by rfl) T.b_list bv_list (pa_cons (pv 7) pa_nil)) (pa_cons (pe_op op_catU (pe_slice sl_tupU (pv 7) po_none (po_some (pe_un un_neg pe_int))) (pe_tup (pa_cons pe_bl pa_nil))) (pa_cons (pe_op op_catU (pe_slice sl_tupU (pv 7) po_none (po_some (pe_un un_neg pe_int))) (pe_tup (pa_cons pe_non pa_nil))) (pa_cons pe_non (pa_cons (pe_tup (pa_cons (pv 7) pa_nil)) pa_nil)))))))))
      (pss_cons (ps_if (pt_not (pt_val (pe_cal G__law_is_refused (hr.mono (by first | decide | omega)) (pa_cons (pv 8) (pa_cons (pv 9) (pa_cons (pe_cal G__law_any (hr.mono (by first | decide | omega)) (pa_cons (pv 1) (pa_cons (pv 10) pa_nil))) pa_nil)))))) (pss_one (ps_ret pe_bl)) pss_nil)
      (pss_cons (ps_set (i := 11) sc_law.nd rfl (Or.inl rfl) (pe_mk C_SceneRunner (hr.mono (by first | decide | omega)) (pa_cons (pv 8) (pa_cons (pv 9) (pa_cons (pv 7) pa_nil)))))
      (pss_cons (ps_set (i := 12) sc_law.nd rfl (Or.inl rfl) (pe_lst (pa_cons (pe_cal G__law_begun (hr.mono (by first | decide | omega)) (pa_cons (pv 6) (pa_cons (pv 7) (pa_cons (pe_callB call_len_seq (by rfl) T.b_len PySem.boot_len (pa_cons (pv 4) pa_nil)) pa_nil)))) pa_nil)))
      (pss_cons (ps_if (pt_not (pt_val (pe_cal G__law_is_right (hr.mono (by first | decide | omega)) (pa_cons (pv 11) (pa_cons (pv 6) (pa_cons (pv 4) (pa_cons (pv 12) pa_nil))))))) (pss_one (ps_ret pe_bl)) pss_nil)
      (pss_one (ps_for PassesOwn.never rfl (pi_range1 (by rfl) T.b_range (pa_cons (pe_op op_add pe_int (pe_cal G__law_draw (hr.mono (by first | decide | omega)) (pa_cons (pv 1) (pa_cons pe_int pa_nil)))) pa_nil)) (pg_name (i := 13) sc_law.nd rfl (Or.inl rfl)) pINNER)))))))))), ?_⟩
  rintro D σ H0 h c ⟨a, cells, sz', rp, rs, zs, x2, x6, x7, x8, x9, x10, x11, x12, x13, x14, x15, x16, rfl, hh, hrt, O, hsz, hzb⟩ q
  obtain ⟨zvs, hzp, zl, hzg⟩ := hsz.get
  have c1 := O.c1
  have c5 := O.c5
  have m1 := O.m1
  have m4 := O.m4
  refine ⟨_, rfl, rp, cells, rs, rfl, hrt, O.R, fun cd H1 g1 hC1 => ?_⟩
  have hxA := (Hx.refl hh).same g1
  -- the contents to begin with
  refine ⟨_, rfl, _, rfl, by omega, by omega, fun D2 hD2 => ?_⟩
  refine lc_range (n := ((cells : Int)).toNat) (fun i H' => Hx h c H1 H' ∧ ∃ l : List Int, H' D2 = some (.lst (l.map V.int)) ∧ l.length = i) ⟨(Hx.refl hxA.h1).new hD2, [], upd_same, rfl⟩ ?_ ?_
  · rintro i H' hi ⟨hx, l, e, hl⟩
    have hi : i < ((cells : Int)).toNat := hi
    refine ⟨rfl, _, rfl, _, rfl, h, c, 6, rfl, hx.h1, by omega, by omega, fun d H2 d0 d1 hx2 => ⟨_, rfl, _, _, rfl, rfl, ⟨by decide, by decide, by decide⟩, _, _, rfl, rfl, (by show 6 ≤ sizeLine; decide), fun l3 hl3 => ?_⟩⟩
    have hx3 := hx2.new (o := .lst [V.int 0, V.int 0, V.int 1, V.int d, V.int (-3), V.int (10 ^ (20 : Int).toNat - 1)]) hl3
    refine ⟨h, c, l3, _, fun v => ∃ z, v = .int z, rfl, hx3.h1, upd_same, by simp, by show 6 ≤ 100; omega, fa ⟨_, rfl⟩ (fa ⟨_, rfl⟩ (fa ⟨_, rfl⟩ (fa ⟨_, rfl⟩ (fa ⟨_, rfl⟩ (fa ⟨_, rfl⟩ fn))))), ?_⟩
    rintro v H4 ⟨z, rfl⟩ hx4
    have hx34 := hx3.trans hx4
    refine ⟨_, hx34.l e, szlt (by rw [List.length_map]; omega), (hx.trans hx34).mut hD2, l ++ [z], ?_, by rw [List.length_append, hl]; rfl⟩
    rw [upd_same, List.map_append]; rfl
  rintro H5 ⟨hx5, l, e5, hll⟩
  rw [Int.toNat_natCast] at hll
  refine ⟨D2, _, rfl, .inl ⟨SqL.of e5, fun pb hpb => ?_⟩⟩
  have hx6 := hx5.new (o := .tup (l.map V.int)) hpb
  have e6 : upd H5 pb (.tup (l.map V.int)) pb = some (.tup (l.map V.int)) := upd_same
  generalize upd H5 pb (.tup (l.map V.int)) = H6 at hx6 e6 ⊢
  have hC6 := hC1.hx hx6
  have hxH6 := hxA.trans hx6
  -- scene, boxes
  refine ⟨_, rfl, _, rfl, ?_⟩
  intro x xd nx nxd nex
  have gA : Same H6 (upd (upd H6 xd (.own x)) x (.ins (ga K "Scene") xd [])) := Same.mut (Same.mut Same.refl' nxd) nx
  refine ⟨x, xd, cells, rp, rs, rfl, upd_same, (hrt.mono hxH6.tups).mono (Same.tups gA), c1, c5, O.R.n1, O.R.n5, fun b m => ⟨O.R.ok b m, O.R.dp b m, O.R.sz b m⟩, fun H7 g7 => ⟨rfl, ?_⟩⟩
  have gB : Same H6 (upd (upd H7 x (.ins (ga K "Scene") xd [("cells", .int (cells : Int))])) x (.ins (ga K "Scene") xd (fScn (.int (cells : Int)) (.ref rp)))) := Same.mut (Same.mut (gA.trans g7) nx) nx
  have eB : upd (upd H7 x (.ins (ga K "Scene") xd [("cells", .int (cells : Int))])) x (.ins (ga K "Scene") xd (fScn (.int (cells : Int)) (.ref rp))) x = some (.ins (ga K "Scene") xd (fScn (.int (cells : Int)) (.ref rp))) := upd_same
  generalize upd (upd H7 x (.ins (ga K "Scene") xd [("cells", .int (cells : Int))])) x (.ins (ga K "Scene") xd (fScn (.int (cells : Int)) (.ref rp))) = H8 at gB eB ⊢
  refine ⟨_, rfl, ?_⟩
  intro y yd ny nyd ney
  have gC : Same H8 (upd (upd H8 yd (.own y)) y (.ins (ga K "Boxes") yd [])) := Same.mut (Same.mut Same.refl' nyd) ny
  have hne : zs ≠ [] := by intro z; rw [z] at m1; cases m1
  refine ⟨y, sz', yd, zs, rfl, upd_same, ((hsz.mono hxH6.tups).mono (Same.tups gB)).mono (Same.tups gC), hne, m4, hzb, fun H9 g9 => ⟨rfl, _, _, rfl, ?_⟩⟩
  have gD : Same H8 (upd (upd H9 y (.ins (ga K "Boxes") yd [("sizes", .ref sz')])) y (.ins (ga K "Boxes") yd (fBox (.ref sz') (.int zs.length)))) := Same.mut (Same.mut (gC.trans g9) ny) ny
  have eD : upd (upd H9 y (.ins (ga K "Boxes") yd [("sizes", .ref sz')])) y (.ins (ga K "Boxes") yd (fBox (.ref sz') (.int zs.length))) y = some (.ins (ga K "Boxes") yd (fBox (.ref sz') (.int zs.length))) := upd_same
  generalize upd (upd H9 y (.ins (ga K "Boxes") yd [("sizes", .ref sz')])) y (.ins (ga K "Boxes") yd (fBox (.ref sz') (.int zs.length))) = H10 at gD eD ⊢
  have g6A := gB.trans gD
  have hxB := hxH6.same g6A
  have hScn : ScnA K H10 x cells rs := ⟨xd, rp, gD.at_ eB, hrt.mono hxB.tups⟩
  have hBox : BxsA K H10 y zs := ⟨yd, sz', eD, hsz.mono hxB.tups⟩
  have ePb := g6A.at_ e6
  have hC10 := hC6.same g6A
  -- what is refused
  obtain ⟨l', zl', rfl⟩ : ∃ l' z, l = l' ++ [z] := by
    have : l ≠ [] := by intro z; rw [z] at hll; simp at hll; omega
    exact ⟨_, _, (List.dropLast_concat_getLast this).symm⟩
  have hl' : l'.length + 1 = cells := by rw [← hll, List.length_append]; rfl
  have emap : (l' ++ [zl']).map V.int = l'.map V.int ++ [V.int zl'] := by rw [List.map_append]; rfl
  have ePb' : H10 pb = some (.tup (l'.map V.int ++ [V.int zl'])) := by rw [← emap]; exact ePb
  refine ⟨_, rfl, _, rfl, pb, _, rfl, ePb, fun p1 J1 k1 e1 => ?_⟩
  rw [cut_from (k := 1) (n := 1) (by rw [List.length_map, hll]; omega) rfl] at e1
  refine ⟨_, rfl, (by show 1 ≤ sizeLine; decide), fun t2 ht2 => ⟨pb, t2, _, _, rfl, rfl, newAt (k1.at_ ePb) ht2, upd_same, by rw [List.length_map, hll]; show cells + 1 ≤ _; omega, fun p2 J2 k2' e2 => ?_⟩⟩
  have k2 := k1.trans (Same.trans (Same.new (o := .tup [V.int 0]) ht2) k2')
  have k12 : Same J1 J2 := Same.trans (Same.new (o := .tup [V.int 0]) ht2) k2'
  refine ⟨_, rfl, pb, _, rfl, .inr (SqT.of (k2.at_ ePb)), fun p3 hp3 => ?_⟩
  have k23 : Same J2 (upd J2 p3 (.lst ((l' ++ [zl']).map V.int))) := Same.new hp3
  have k3 := k2.trans k23
  refine ⟨_, rfl, _, rfl, _, rfl, pb, _, rfl, k3.at_ ePb', fun p4 J4 k34 e4 => ?_⟩
  rw [cut_init rfl] at e4
  refine ⟨(by show 1 ≤ sizeLine; decide), fun t5 ht5 => ⟨p4, t5, _, _, rfl, rfl, newAt e4 ht5, upd_same, by rw [List.length_map]; show l'.length + 1 ≤ _; omega, fun p5 J5 k45' e5' => ?_⟩⟩
  have k35 := k34.trans (Same.trans (Same.new (o := .tup [V.bl true]) ht5) k45')
  have k5 := k3.trans k35
  refine ⟨_, rfl, _, rfl, _, rfl, pb, _, rfl, k5.at_ ePb', fun p6 J6 k56 e6' => ?_⟩
  rw [cut_init rfl] at e6'
  refine ⟨(by show 1 ≤ sizeLine; decide), fun t7 ht7 => ⟨p6, t7, _, _, rfl, rfl, newAt e6' ht7, upd_same, by rw [List.length_map]; show l'.length + 1 ≤ _; omega, fun p7 J7 k67' e7 => ?_⟩⟩
  have k57 := k56.trans (Same.trans (Same.new (o := .tup [V.non]) ht7) k67')
  have k7 := k5.trans k57
  refine ⟨_, rfl, (by show 1 ≤ sizeLine; decide), fun p8 hp8 => ⟨(by show 7 ≤ sizeLine; decide), fun lb hlb => ?_⟩⟩
  have k78 := Same.then_ (Same.new (o := .tup [V.ref pb]) hp8) (o := .lst [V.ref p1, V.ref p2, V.ref p3, V.ref p5, V.ref p7, V.non, V.ref p8]) hlb
  have k8 := k7.trans k78
  have e8 : upd (upd J7 p8 (.tup [V.ref pb])) lb (.lst [V.ref p1, V.ref p2, V.ref p3, V.ref p5, V.ref p7, V.non, V.ref p8]) p8 = some (.tup [V.ref pb]) := newAt upd_same hlb
  have elb : upd (upd J7 p8 (.tup [V.ref pb])) lb (.lst [V.ref p1, V.ref p2, V.ref p3, V.ref p5, V.ref p7, V.non, V.ref p8]) lb = _ := upd_same
  generalize upd (upd J7 p8 (.tup [V.ref pb])) lb (.lst [V.ref p1, V.ref p2, V.ref p3, V.ref p5, V.ref p7, V.non, V.ref p8]) = J8 at k78 k8 e8 elb ⊢
  have f1 := (k12.trans (k23.trans (k35.trans (k57.trans k78)))).at_ e1
  have f2 := (k23.trans (k35.trans (k57.trans k78))).at_ e2
  have f3 := (k35.trans (k57.trans k78)).at_ (upd_same (H := J2) (a := p3) (o := .lst ((l' ++ [zl']).map V.int)))
  have f5 := (k57.trans k78).at_ e5'
  have f7 := k78.at_ e7
  have fb := k8.at_ ePb
  have hx8 := hxB.same k8
  refine ⟨_, rfl, _, rfl, _, rfl, _, rfl, h, c, lb, _, fun v => Cont J8 (cells : Int) v false, rfl, hx8.h1, elb, by simp, by show 7 ≤ 100; omega, ?_, ?_⟩
  · refine fa (.inl ⟨p1, _, rfl, f1, fun v m => ints_kty v (List.mem_of_mem_drop m), by rw [List.length_drop, List.length_map, hll]; omega, ?_⟩) (fa (.inl ⟨p2, _, rfl, f2, fun v m => ?_, by rw [List.length_append, List.length_map, hll]; show cells + 1 ≤ _; omega, ?_⟩) (fa (.inr ⟨_, .lst f3, by decide, rfl⟩) (fa (.inl ⟨p5, _, rfl, f5, fun v m => ?_, by rw [List.length_append, List.length_map]; show l'.length + 1 ≤ _; omega, ?_⟩) (fa (.inl ⟨p7, _, rfl, f7, fun v m => ?_, by rw [List.length_append, List.length_map]; show l'.length + 1 ≤ _; omega, ?_⟩) (fa (.inr ⟨_, .non, by decide, rfl⟩) (fa (.inl ⟨p8, _, rfl, e8, fun v m => ?_, by show 1 ≤ 100; omega, ?_⟩) fn))))))
    · rw [decide_eq_false, Bool.false_and]
      rw [List.length_drop, List.length_map, hll]; omega
    · rcases List.mem_append.mp m with m | m
      · exact ints_kty v m
      · have : v = .int 0 := by simpa using m
        rw [this]; exact ⟨_, .int 0⟩
    · rw [decide_eq_false, Bool.false_and]
      rw [List.length_append, List.length_map, hll]; show ¬ ((cells + 1 : Nat) : Int) = (cells : Int); omega
    · rcases List.mem_append.mp m with m | m
      · exact ints_kty v m
      · have : v = .bl true := by simpa using m
        rw [this]; exact ⟨_, .bl true⟩
    · rw [List.all_append]; show false = (_ && (_ && false)); rw [Bool.and_false, Bool.and_false]
    · rcases List.mem_append.mp m with m | m
      · exact ints_kty v m
      · have : v = .non := by simpa using m
        rw [this]; exact ⟨_, .non⟩
    · rw [List.all_append]; show false = (_ && (_ && false)); rw [Bool.and_false, Bool.and_false]
    · have : v = .ref pb := by simpa using m
      rw [this]; exact ⟨_, .tup fb⟩
    · show false = (_ && false); rw [Bool.and_false]
  rintro v J9 hv hx9
  have hx89 := hx8.trans hx9
  have kp9 : Kp H10 J9 := Kp.trans (Same.kp k8) hx9.kp
  refine ⟨x, y, v, cells, rs, zs, rfl, hScn.mono kp9, hBox.mono kp9, O, hv.hx hx9, fun J10 k10 => ⟨_, rfl, itF rfl ?_⟩⟩
  have kp10 := Kp.trans kp9 (Same.kp k10)
  have hx10 := hx89.same k10
  -- the runner
  refine ⟨_, rfl, _, rfl, _, rfl, ?_⟩
  intro z zd nz nzd nez
  have gZ : Same J10 (upd (upd J10 zd (.own z)) z (.ins (ga K "SceneRunner") zd [])) := Same.mut (Same.mut Same.refl' nzd) nz
  have kpZ := Kp.trans kp10 (Same.kp gZ)
  have hSm : SmA (upd (upd J10 zd (.own z)) z (.ins (ga K "SceneRunner") zd [])) (.ref pb) (l' ++ [zl']) := ⟨pb, rfl, kpZ.t _ _ ePb⟩
  refine ⟨z, zd, x, y, .ref pb, cells, rs, zs, true, rfl, upd_same, hScn.mono kpZ, hBox.mono kpZ, O, cont_of hSm hll c5, (fun z => by cases z), fun _ => ⟨l' ++ [zl'], hSm, hll, fun J11 pl gE npl nplz R11 => ⟨rfl, ?_⟩⟩⟩
  have k11 : Same J10 J11 := Same.ext1 gZ nz gE
  have hx11 := hx10.same k11
  have kp11 := Kp.trans kp10 (Same.kp k11)
  have hC11 : CdsA J11 cd rs := ((((hC10.same k8).hx hx9).same k10).same k11)
  -- the trail
  refine ⟨_, rfl, _, rfl, _, rfl, sz', _, rfl, .inr (SqT.of (hx11.t hzp)), cd, .ref pb, cells, zs.length, rs, l' ++ [zl'], by rw [zl], hC11, O.R, m1, m4, ⟨pb, rfl, kp11.t _ _ ePb⟩, fun tv J12 k12' hL => ⟨(by show 1 ≤ sizeLine; decide), fun t ht => ?_⟩⟩
  have kt : Same J12 (upd J12 t (.lst [tv])) := Same.new ht
  have k1t := k12'.trans kt
  have hTr : TrlA rs (upd J12 t (.lst [tv])) t ([] ++ [st0 rs (l' ++ [zl']) zs.length]) := ⟨[tv], upd_same, .cons (hL.mono (Same.tups kt)) .nil⟩
  have R13 := R11.same k1t
  have hC13 := hC11.same k1t
  have hx13 := hx11.same k1t
  have hsz13 := hsz.mono hx13.tups
  refine ⟨_, rfl, _, rfl, _, rfl, _, rfl, z, pl, x, y, cd, sz', t, cells, rs, zs, [], st0 rs (l' ++ [zl']) zs.length, rfl, R13, hC13, hsz13, hTr, O, fun J14 k14 => ⟨_, rfl, itF rfl ?_⟩⟩
  refine ⟨_, rfl, h, c, 41, rfl, hx13.h1.same k14, by omega, by omega, fun r J15 r0 r1 hx15 => ⟨_, _, rfl, rfl, _, rfl, by omega, by omega, ?_⟩⟩
  refine for_range (n := ((10 : Int) + r).toNat) (fun i σ H => LawSt K h c 1000 σ H) ⟨a, cells, rs, zs, [], st0 rs (l' ++ [zl']) zs.length, z, pl, x, y, cd, sz', t, _, _, _, _, _, _, _, _, _, _, rfl, hx15.h1, (R13.same k14).hx hx15, (hC13.same k14).hx hx15, (hsz13.mono (Same.tups k14)).mono hx15.tups, (hTr.same k14).hx hx15, O, by simp⟩ ?_ ?_
  · rintro i σ H2 hi ⟨a, cells, rs, zs, ps, st, r, pl, sc, bx, cd, sz, t, x2, x5, x7, x8, x9, x10, x13, x14, x15, x16, rfl, y1⟩
    exact qI _ _ _ h c ⟨a, cells, rs, zs, ps, st, r, pl, sc, bx, cd, sz, t, x2, x5, x7, x8, x9, x10, _, x14, x15, x16, rfl, y1⟩ (fun σ2 H2 y => y) (fun σ2 H2 y => q _ _ y.turn)
  · rintro σ H2 y
    exact q _ _ y.turn
theorem law_run (T : Facts w K mg) {fl : Addr} {fd : FuncData} (F : FunD K "law" "law" (defArgs s_law) (defBody s_law) (defScope s_law) [] [] fl fd) : FnOk P w K mg base CX0 21 fl fd ["_law_script"] (spLaw K) := by
  have G__law_hand := ok_lhand (P := P) (base := base) T
  have G__law_any := ok_any (P := P) (base := base) T
  have G__law_draw := ok_draw (P := P) (base := base) T
  have G__law_sizes := ok_lsizes (P := P) (base := base) T
  have G__law_routines := ok_lroutines (P := P) (base := base) T
  have G__law_size := ok_lsize (P := P) (base := base) T 5
  have G__law_laid := ok_llaid (P := P) (base := base) T
  refine F.ok sc_law (fun vs H Q E h => ?_) (fun cdv A outer s H vs Q E hr h => ?_)
  · obtain ⟨_, _, rfl, _⟩ := h; rfl
  obtain ⟨sa, ns, rfl, hS, q⟩ := h
  obtain ⟨tR, pREST, qR⟩ := law_rest (P := P) (base := base) (f := fl) (cdv := cdv) (A := A) (outer := outer) (s := s) (H := H) (E := E) T hr
  have main : ∃ t, PSs (LX P w K mg base fl cdv A outer s H E) (defBody s_law) t ∧ t { nx := fun _ H' => Q .non H', rt := Q } (start N_law [.ref sa]) H := by
    refine ⟨_, (pss_cons (ps_set (i := 1) sc_law.nd rfl (Or.inr rfl) (pe_cal G__law_hand (hr.mono (by first | decide | omega)) (pa_cons (pv 0) pa_nil))) (pss_cons (ps_for PassesOwn.never rfl (pi_range1 (by rfl) T.b_range (pa_cons pe_int pa_nil)) (pg_name (i := 2) sc_law.nd rfl (Or.inl rfl)) (pss_cons (ps_set (i := 3) sc_law.nd rfl (Or.inl rfl) (pe_cal G__law_any (hr.mono (by first | decide | omega)) (pa_cons (pv 1) (pa_cons (pe_lst (pa_cons pe_int (pa_cons pe_int (pa_cons pe_int (pa_cons pe_int pa_nil))))) pa_nil))))
      (pss_cons (ps_set (i := 4) sc_law.nd rfl (Or.inl rfl) (pe_cal G__law_sizes (hr.mono (by first | decide | omega)) (pa_cons (pv 1) (pa_cons pe_int pa_nil))))
      (pss_cons (ps_set (i := 5) sc_law.nd rfl (Or.inl rfl) (pe_cal G__law_routines (hr.mono (by first | decide | omega)) (pa_cons (pv 1) (pa_cons (pv 3) (pa_cons (pe_callB call_len_seq (by rfl) T.b_len PySem.boot_len (pa_cons (pv 4) pa_nil)) pa_nil)))))
      (pss_cons (ps_if (PW.pt (pw_and (pt_cmpR op_le (pe_cal G__law_size (hr.mono (by first | decide | omega)) (pa_cons (pe_ix ix_tup (pv 5) pe_int (fun _ _ => rfl)) pa_nil)) pe_int (nomark _)) (pw_and1 (pt_cmpR op_eq (pe_cal G__law_draw (hr.mono (by first | decide | omega)) (pa_cons (pv 1) (pa_cons pe_int pa_nil))) pe_int (nomark _))))) (pss_one (ps_set (i := 5) sc_law.nd rfl (Or.inl rfl) (pe_cal G__law_laid (hr.mono (by first | decide | omega)) (pa_cons (pv 1) (pa_cons (pv 3) (pa_cons (pv 4) (pa_cons (pv 5) pa_nil))))))) pss_nil)
      pREST))))) (pss_one (ps_ret pe_bl)))), ?_⟩
    refine ⟨_, rfl, sa, ns, rfl, hS, fun h c H1 g1 hh => ?_⟩
    refine ⟨2, rfl, by decide, by decide, ?_⟩
    refine for_range (n := 2) (fun i σ H => TurnSt h c σ H) ⟨_, _, _, _, _, _, _, _, _, _, _, _, _, _, _, _, rfl, hh⟩ ?_ ?_
    · rintro i σ H2 hi ⟨a, x2, x3, x4, x5, x6, x7, x8, x9, x10, x11, x12, x13, x14, x15, x16, rfl, hh⟩
      refine ⟨_, rfl, (by show 4 ≤ sizeLine; decide), fun l1 hl1 => ⟨h, c, l1, _, fun v => ∃ n : Nat, v = .int (n : Int) ∧ 1 ≤ n ∧ n ≤ 5, rfl, ((Hx.refl hh).new hl1).h1, upd_same, by simp, by show 4 ≤ 100; omega, fa ⟨1, rfl, by omega, by omega⟩ (fa ⟨2, rfl, by omega, by omega⟩ (fa ⟨3, rfl, by omega, by omega⟩ (fa ⟨5, rfl, by omega, by omega⟩ fn))), ?_⟩⟩
      rintro v H3 ⟨cells, rfl, c1, c5⟩ hx3
      refine ⟨_, rfl, h, c, rfl, hx3.h1, fun szp zs H4 hx4 hsz hne z4 hzb => ?_⟩
      have z1 : 1 ≤ zs.length := List.length_pos_iff.mpr hne
      obtain ⟨zvs, hzp, zl, hzg⟩ := hsz.get
      refine ⟨_, rfl, _, rfl, _, rfl, szp, _, rfl, .inr (SqT.of hzp), h, c, cells, zs.length, by rw [zl], hx4.h1, c1, c5, z1, z4, fun rp rs H5 hx5 hrt R => ?_⟩
      obtain ⟨rvs, hrp, hrg⟩ := hrt.at_
      obtain ⟨q0, e0, hb0⟩ := hrg (n := 0) R.n1
      have hm0 := R.at_ (n := 0) R.n1
      have hsz5 := hsz.mono hx5.tups
      have fin : ∀ σ2 H2, TurnSt h c σ2 H2 → TurnSt h c σ2 H2 := fun _ _ y => y
      have hd0 := R.dp _ hm0
      refine ⟨_, rfl, _, _, _, _, rfl, rfl, SqT.of hrp, atI_nat (j := 0) e0, q0, rs.getD 0 [], rfl, hb0, by omega, fun H6 g6 => ⟨_, _, rfl, rfl, _, rfl, ?_⟩⟩
      have hh6 := hx5.h1.same g6
      refine ite2 (fun cc => ?_) (fun cc => ?_)
      · have cc := of_decide_eq_true cc
        refine ⟨_, rfl, h, c, 2, rfl, hh6, by omega, by omega, fun k H7 k0 k1 hx7 => ⟨rfl, _, rfl, ite2 (fun ck => ?_) (fun ck => ?_)⟩⟩
        · refine ⟨_, rfl, _, rfl, _, rfl, _, rfl, h, c, szp, rp, cells, zs, rs, rfl, hx7.h1, c1, c5, (hsz5.mono (Same.tups g6)).mono hx7.tups, z1, z4, hzb, (hrt.mono (Same.tups g6)).mono hx7.tups, R, by omega, fun p rs' H8 hx8 hrt' R' => ?_⟩
          exact qR _ _ _ h c ⟨a, cells, szp, p, rs', zs, _, x6, x7, x8, x9, x10, x11, x12, x13, x14, x15, x16, rfl, hx8.h1, hrt', ⟨R', c1, c5, z1, z4⟩, ((hsz5.mono (Same.tups g6)).mono hx7.tups).mono hx8.tups, hzb⟩ fin
        · exact qR _ _ _ h c ⟨a, cells, szp, rp, rs, zs, _, x6, x7, x8, x9, x10, x11, x12, x13, x14, x15, x16, rfl, hx7.h1, (hrt.mono (Same.tups g6)).mono hx7.tups, ⟨R, c1, c5, z1, z4⟩, (hsz5.mono (Same.tups g6)).mono hx7.tups, hzb⟩ fin
      · exact qR _ _ _ h c ⟨a, cells, szp, rp, rs, zs, _, x6, x7, x8, x9, x10, x11, x12, x13, x14, x15, x16, rfl, hh6, hrt.mono (Same.tups g6), ⟨R, c1, c5, z1, z4⟩, hsz5.mono (Same.tups g6), hzb⟩ fin
    · rintro σ H2 _
      exact q _
  obtain ⟨t, p, r⟩ := main
  exact ⟨t, p.nox, r⟩
end
end K34

set_option Elab.async false
set_option linter.all false
set_option maxRecDepth 100000
set_option maxHeartbeats 0
/-! END: the head's run joined with the law's walk. -/
namespace K34
open PySem PySem.Spec PyProof.Rows L2
open He (ga ma)
theorem facts_end {w : World} {K : PySem.W.Frag} {h : Heap} {mg : Str → Option Value} {fa : Addr} (X : K.In h) (G : h.Ns mainGlobals mg) (hfa : mg ("law" : Str) = some (.ref fa)) (c : SaysA w K) {P : Program} :
    ∃ fd : FuncData, (∀ (s : Shared) (u : Value), BindsTo s fd ⟨[u], []⟩ [("_law_script", u)]) ∧ ∀ base : Heap, FnOk P w K mg base CX0 21 fa fd ["_law_script"] (spLaw K) := by
  have T := facts_of X G c
  obtain ⟨f, fd, F, hm⟩ := T.d_law
  have e : f = fa := by
    rw [hm] at hfa
    exact Value.ref.inj (Option.some.inj hfa)
  subst e
  have b := FunD.bindsA (ps := ["_law_script"]) F fun _ _ _ _ _ _ us hl => match us, hl with | [_], _ => rfl
  exact ⟨fd, fun s v => b s [v] rfl, fun base => law_run T F⟩
end K34
open PySem PySem.W PySem.Calls PyProof.Rows
theorem PySem.Challenge.cw_fourstrokes_k34_whole_scenes_led_step_by_holds : PySem.Challenge.rw_fourstrokes_k34_whole_scenes_led_step_by.Holds := by
  w_on; o_law
  refine HandSHeadRun.head_any (r := OpenLaw.row PySem.Challenge.rw_fourstrokes_k34_whole_scenes_led_step_by) (q := view (OpenLaw.row PySem.Challenge.rw_fourstrokes_k34_whole_scenes_led_step_by).prog [98]) (H := K34.hk) (ob := K34.ob) (M := 6000) (loose := K34.loose) (d := HandSHeadRun.topDef (OpenLaw.row PySem.Challenge.rw_fourstrokes_k34_whole_scenes_led_step_by).prog 98) (kwd := []) K34.ob_eq
    (by kernel_rfl) (fun s => by kernel_rfl) K34.run (by kernel_rfl) (by kernel_rfl) (by kernel_rfl) (by rfl) (by first | assumption | decide +kernel) (by decide +kernel) ⟨rfl, rfl, rfl, rfl, rfl, by decide +kernel⟩ ?hw ?hc
  case hw => w_witness2
  case hc =>
    refine L2.walk_ofE (l := PySem.Challenge.rw_fourstrokes_k34_whole_scenes_led_step_by) (n := 63) (k := 21) (x := "_law_script") (CX := L2.CX0) rfl (by decide) (by kernel_rfl) ⟨rfl, by decide, by decide⟩ ?F (fun _ _ _ _ z => z)
    intro w mg fa h Y G hmg0
    obtain ⟨K, KX, c⟩ := Y
    have hmg : mg ("law" : PySem.Str) = some (.ref fa) := by
      have e : (HandSHeadRun.topDef (OpenLaw.row PySem.Challenge.rw_fourstrokes_k34_whole_scenes_led_step_by).prog 98).name = ("law" : PySem.Str) := by kernel_rfl
      rw [← e]
      exact hmg0
    obtain ⟨fd, hb, hF⟩ := K34.facts_end KX G hmg c (P := (PySem.Challenge.rw_fourstrokes_k34_whole_scenes_led_step_by).prog)
    exact ⟨K, fd, K34.spLaw K, KX, hb, fun H a ns hl _ hS => ⟨a, ns, rfl, hS, fun _ => rfl⟩, fun base _ _ => hF base⟩
